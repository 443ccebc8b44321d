import PyProof.Rows.All
import Wide.All
import OpenK.AllK
import Wide.FinOn
import KE.KStateDown
import KE.KSuper
import KE.KExcSuper
import Lean
import HandS.ForMost
import HandS.Flow
import HandS.Style
import HandS.StrMore
import HandS.FStr
import HandS.IsInst
import HandS.Property
import HandS.ClsMeth
import HandS.Defaults
import HandS.MakeKw
import HandS.Walk
import HandS.Exc
import HandS.ExcOwn
import HandS.WordsExc
import HandS.TryMany
import HandS.ExcIs
import HandS.Wide
import HandS.Nested
import HandS.HeadEnd
import HandS.HeadHook1
import HandS.HeadHook2
import HandS.Head2
import HandS.Head0
import HandS.Head1
import HandS.Replace
import HandS.Steps
import HandS.MakeKwOnly
import PyProof.ExcBaseAll.ValueError
import HandS.ExcInit
import HandS.ExcField
import KE.KExcIs
import PySem.Challenge.RW_hopkeep_k06_whole_cutting_is_free
/-! KM1: the reader as a machine over code points, the law's own reading of a text, and their agreement. Plain Lean, no program in sight. -/
namespace K6
abbrev Tx := List Nat
inductive Stg where | start | fields | body | size | chunk | ends | trailer | closed | broken
  deriving DecidableEq
inductive FK where | character | long | start | field | length | many | chunk | cut
  deriving DecidableEq
abbrev Flt := Option (FK × Int)
abbrev Fld := Tx × Tx
structure Row where
  start : Tx
  fields : List Fld
  body : Tx
/-- a line of the fields: a fault, the framing's value, a field -/
inductive LR where | bad (k : FK) | frame (v : Tx) | field (n v : Tx)
/-- what the machine and the reading lean on -/
structure Pm where
  plain : Nat → Bool
  startOk : Tx → Bool
  may : Tx → Bool
  answers : Bool
  chunksV : Tx
  lineRes : Bool → Bool → Option Tx → Nat → Tx → LR
  num : Tx → Option Nat
  nlNotPlain : plain 10 = false
  trailerFrame : ∀ (m : Bool) (f g : Option Tx) (n : Nat) (l : Tx), lineRes m true f n l = lineRes m true g n l
  frameOk : ∀ (m t : Bool) (f : Option Tx) (n : Nat) (l v : Tx), lineRes m t f n l = .frame v → t = false ∧ f = none ∧ (v = chunksV ∨ ∃ k, num v = some k ∧ k ≤ 100000)
/-- a message that is being read -/
structure Dr where
  start : Tx
  fields : List Fld
  frame : Option Tx
  opn : Bool
  signs : Tx
  due : Int
structure RS where
  stage : Stg
  fault : Flt
  done : Nat
  read : Nat
  line : Tx
  draft : Option Dr
def RS.init : RS := ⟨.start, none, 0, 0, [], none⟩

section
variable (P : Pm)
/-! ### the machine -/
def RS.off (s : RS) (k : FK) (i : Int) : RS := { s with fault := some (k, i), stage := .broken }
def Dr.row (d : Dr) : Row := ⟨d.start, d.fields, d.signs⟩
def complete (s : RS) : RS × Option Row :=
  match s.draft with
  | none => (s, none)
  | some d => ({ s with draft := none, done := s.done + 1, stage := .start }, some d.row)
def Dr.framed (d : Dr) : Dr :=
  match d.frame with
  | none => { d with opn := P.answers && P.may d.start }
  | some v => { d with due := ((P.num v).getD 0 : Nat) }
def beginBody (s : RS) : RS × Option Row :=
  match s.draft with
  | none => (s, none)
  | some d =>
    if d.frame = some P.chunksV then ({ s with stage := .size }, none)
    else if (d.framed P).opn = true ∨ (d.framed P).due > 0 then ({ s with draft := some (d.framed P), stage := .body }, none)
    else complete { s with draft := some (d.framed P) }
def readStartLine (s : RS) (text : Tx) (first : Int) : RS :=
  if P.startOk text = true then { s with draft := some ⟨text, [], none, false, [], 0⟩, stage := .fields } else s.off .start first
def readFieldLine (s : RS) (text : Tx) (first : Int) : RS :=
  match s.draft with
  | none => s
  | some d =>
    match P.lineRes (P.may d.start) (decide (s.stage = .trailer)) d.frame d.fields.length text with
    | .bad k => s.off k first
    | .frame v => { s with draft := some { d with frame := some v } }
    | .field n v => { s with draft := some { d with fields := d.fields ++ [(n, v)] } }
def readSizeLine (s : RS) (text : Tx) (first : Int) : RS :=
  match s.draft with
  | none => s
  | some d =>
    match P.num text with
    | none => s.off .chunk first
    | some n =>
      if 100000 < d.signs.length + n then s.off .long first
      else if n = 0 then { s with stage := .trailer }
      else { s with draft := some { d with due := n }, stage := .chunk }
def readLine (s0 : RS) : RS × Option Row :=
  let text := s0.line
  let first : Int := (s0.read : Int) - text.length
  let s : RS := { s0 with line := [] }
  if s.stage = .size then (readSizeLine P s text first, none)
  else if s.stage = .start then (if text = [] then s else readStartLine P s text first, none)
  else if text = [] then (if s.stage = .trailer then complete s else beginBody P s)
  else (readFieldLine P s text first, none)
def readBodySign (s : RS) (c : Nat) : RS × Option Row :=
  match s.draft with
  | none => (s, none)
  | some d =>
    if d.opn = true then
      if d.signs.length = 100000 then (s.off .long ((s.read : Int) - 100000), none)
      else ({ s with draft := some { d with signs := d.signs ++ [c] } }, none)
    else if d.due - 1 > 0 then ({ s with draft := some { d with signs := d.signs ++ [c], due := d.due - 1 } }, none)
    else if s.stage = .body then complete { s with draft := some { d with signs := d.signs ++ [c], due := d.due - 1 } }
    else ({ s with draft := some { d with signs := d.signs ++ [c], due := d.due - 1 }, stage := .ends }, none)
def readChunkEnd (s : RS) (c : Nat) : RS :=
  if c = 10 then { s with stage := .size } else s.off .chunk s.read
def RS.tick (r : RS × Option Row) : RS × Option Row := ({ r.1 with read := r.1.read + 1 }, r.2)
def readSign0 (s : RS) (c : Nat) : RS × Option Row :=
  if c ≠ 10 ∧ P.plain c = false then (s.off .character s.read, none)
  else if s.stage = .body ∨ s.stage = .chunk then readBodySign s c
  else if s.stage = .ends then (readChunkEnd s c, none)
  else if c = 10 then readLine P s
  else if s.line.length = 300 then (s.off .long ((s.read : Int) - 300), none)
  else ({ s with line := s.line ++ [c] }, none)
def readSign (s : RS) (c : Nat) : RS × Option Row := RS.tick (readSign0 P s c)
def run : RS → Tx → List Row × RS
  | s, [] => ([], s)
  | s, c :: cs =>
    if s.fault ≠ none then ([], s)
    else
      let r := readSign P s c
      let q := run r.1 cs
      (r.2.toList ++ q.1, q.2)
/-- the end of the stream: the rows, the state -/
def finish (s : RS) : List Row × RS :=
  if s.fault ≠ none then ([], s)
  else if s.stage = .start ∧ s.line = [] then ([], { s with stage := .closed })
  else match s.draft with
    | some d => if s.stage = .body ∧ d.opn = true then ([d.row], { (complete s).1 with stage := .closed }) else ([], s.off .cut s.read)
    | none => ([], s.off .cut s.read)

/-! ### the law's reading -/
inductive LL where | inc | bad | ln (l : Tx)
/-- the place of the first newline -/
def nlAt : Tx → Option Nat
  | [] => none
  | c :: r => if c = 10 then some 0 else (nlAt r).map (· + 1)
def lineOf (u : Tx) : LL :=
  match nlAt (u.take 301) with
  | some k => .ln (u.take k)
  | none => if u.length > 300 then .bad else .inc
def lawLine (t : Tx) (a : Nat) : LL := lineOf (t.drop a)
abbrev Flag := Option (Stg × Flt)
structure HR where
  pos : Nat
  frame : Option Tx
  flag : Flag
  fields : List Fld
def lawHead (t start : Tx) (trailer : Bool) : Nat → Nat → List Fld → Option Tx → HR
  | 0, a, fs, fr => ⟨a, fr, none, fs⟩
  | f + 1, a, fs, fr =>
    match lawLine t a with
    | .inc => ⟨a, fr, some (if trailer = true then .trailer else .fields, none), fs⟩
    | .bad => ⟨a, fr, some (.broken, some (.long, a)), fs⟩
    | .ln l =>
      if l = [] then ⟨a + 1, fr, none, fs⟩
      else match P.lineRes (P.may start) trailer fr fs.length l with
        | .bad k => ⟨a, fr, some (.broken, some (k, a)), fs⟩
        | .frame v => lawHead t start trailer f (a + l.length + 1) fs (some v)
        | .field n v => lawHead t start trailer f (a + l.length + 1) (fs ++ [(n, v)]) fr
structure CR where
  pos : Nat
  body : Tx
  flag : Flag
def lawChunked (t : Tx) : Nat → Nat → Tx → CR
  | 0, a, b => ⟨a, b, none⟩
  | f + 1, a, b =>
    match lawLine t a with
    | .inc => ⟨a, b, some (.size, none)⟩
    | .bad => ⟨a, b, some (.broken, some (.long, a))⟩
    | .ln l =>
      match P.num l with
      | none => ⟨a, b, some (.broken, some (.chunk, a))⟩
      | some n =>
        if 100000 < b.length + n then ⟨a, b, some (.broken, some (.long, a))⟩
        else if n = 0 then ⟨a + l.length + 1, b, none⟩
        else if t.length < a + l.length + 1 + n then ⟨a + l.length + 1, b, some (.chunk, none)⟩
        else if a + l.length + 1 + n = t.length then ⟨a + l.length + 1 + n, b ++ (t.drop (a + l.length + 1)).take n, some (.ends, none)⟩
        else if (t.drop (a + l.length + 1 + n)).head? ≠ some 10 then ⟨a + l.length + 1 + n, b ++ (t.drop (a + l.length + 1)).take n, some (.broken, some (.chunk, ((a + l.length + 1 + n : Nat) : Int)))⟩
        else lawChunked t f (a + l.length + 1 + n + 1) (b ++ (t.drop (a + l.length + 1)).take n)
/-- a message, or why there is none: the row, the place, the flag, what finish would give -/
structure OR where
  row : Option Row
  pos : Nat
  flag : Flag
  opn : Option (List Row)
def bodyLen (fr : Option Tx) : Nat := match fr with
  | none => 0
  | some v => (P.num v).getD 0
def lawBody (t : Tx) (a : Nat) (start : Tx) (fs : List Fld) (fr : Option Tx) : OR :=
  if fr = some P.chunksV then
    let c := lawChunked P t (t.length + 1) a []
    if c.flag ≠ none then ⟨none, c.pos, c.flag, none⟩
    else
      let h := lawHead P t start true (t.length + 1) c.pos fs none
      ⟨some ⟨start, h.fields, c.body⟩, h.pos, h.flag, none⟩
  else if fr = none ∧ P.answers = true ∧ P.may start = true then
    if t.length - a > 100000 then ⟨none, a, some (.broken, some (.long, a)), none⟩
    else ⟨none, a, some (.body, none), some [⟨start, fs, t.drop a⟩]⟩
  else
    if t.length - a < bodyLen P fr then ⟨none, a, some (.body, none), none⟩
    else ⟨some ⟨start, fs, (t.drop a).take (bodyLen P fr)⟩, a + bodyLen P fr, none, none⟩
/-- behind the empty lines -/
def lawSkip (t : Tx) : Nat → Nat → Nat
  | 0, a => a
  | f + 1, a => match lawLine t a with
    | .ln [] => lawSkip t f (a + 1)
    | _ => a
def lawOne (t : Tx) (a0 : Nat) : OR :=
  let a := lawSkip t (t.length + 1) a0
  match lawLine t a with
  | .inc => if a = t.length then ⟨none, a, some (.start, none), some []⟩ else ⟨none, a, some (.start, none), none⟩
  | .bad => ⟨none, a, some (.broken, some (.long, a)), none⟩
  | .ln l =>
    if P.startOk l = false then ⟨none, a, some (.broken, some (.start, a)), none⟩
    else
      let h := lawHead P t l false (t.length + 1) (a + l.length + 1) [] none
      if h.flag ≠ none then ⟨none, h.pos, h.flag, none⟩
      else lawBody P t h.pos l h.fields h.frame
def lawAll (t : Tx) : Nat → OR → List Row → List Row × OR
  | 0, o, rows => (rows, o)
  | f + 1, o, rows =>
    if o.flag ≠ none then (rows, o)
    else lawAll t f (lawOne P t o.pos) (rows ++ o.row.toList)
def badAt : Tx → Nat
  | [] => 0
  | c :: r => if c ≠ 10 ∧ P.plain c = false then 0 else badAt r + 1
structure RR where
  rows : List Row
  stage : Stg
  fault : Flt
  opn : Option (List Row)
def reading (text : Tx) : RR :=
  let b := badAt P text
  let w := text.take b
  let r := lawAll P w (w.length + 1) (lawOne P w 0) []
  let f := r.2.flag.getD (.start, none)
  if b < text.length ∧ f.2 = none then ⟨r.1, .broken, some (.character, b), none⟩
  else ⟨r.1, f.1, f.2, r.2.opn⟩
structure ER where
  rows : List Row
  more : List Row
  stage : Stg
  fault : Flt
def ended (text : Tx) : ER :=
  let r := reading P text
  if r.fault ≠ none then ⟨r.rows, [], .broken, r.fault⟩
  else match r.opn with
    | none => ⟨r.rows, [], .broken, some (.cut, text.length)⟩
    | some o => ⟨r.rows, o, .closed, none⟩
end
end K6

/-! KM2: the machine and the law's reading agree on every text. -/
namespace K6
/-! ### lines -/
theorem nlAt_none : ∀ {u : Tx}, nlAt u = none → 10 ∉ u
  | [], _ => by simp
  | c :: r, h => by
    unfold nlAt at h
    by_cases e : c = 10
    · rw [if_pos e] at h; cases h
    · rw [if_neg e] at h
      have h2 : nlAt r = none := by
        cases q : nlAt r with
        | none => rfl
        | some k => rw [q] at h; cases h
      have := nlAt_none h2
      simp only [List.mem_cons, not_or]
      exact ⟨fun z => e z.symm, this⟩
theorem nlAt_some : ∀ {u : Tx} {k : Nat}, nlAt u = some k → 10 ∉ u.take k ∧ ∃ r, u = u.take k ++ 10 :: r
  | [], _, h => by cases h
  | c :: r, k, h => by
    unfold nlAt at h
    by_cases e : c = 10
    · rw [if_pos e] at h; cases h
      exact ⟨by simp, r, by simp [e]⟩
    · rw [if_neg e] at h
      cases q : nlAt r with
      | none => rw [q] at h; cases h
      | some j =>
        rw [q] at h; cases h
        obtain ⟨h1, r', h2⟩ := nlAt_some q
        refine ⟨?_, r', ?_⟩
        · simp only [List.take_succ_cons, List.mem_cons, not_or]
          exact ⟨fun z => e z.symm, h1⟩
        · rw [List.take_succ_cons, List.cons_append, ← h2]
theorem lineOf_ln {u l : Tx} (h : lineOf u = .ln l) : (∃ r, u = l ++ 10 :: r) ∧ 10 ∉ l ∧ l.length ≤ 300 := by
  unfold lineOf at h
  cases q : nlAt (u.take 301) with
  | none =>
    rw [q] at h
    simp only at h
    split at h <;> cases h
  | some k =>
    rw [q] at h
    simp only [LL.ln.injEq] at h
    subst h
    obtain ⟨h1, r, h2⟩ := nlAt_some q
    have hk : k ≤ 300 := by
      have e := congrArg List.length h2
      simp only [List.length_append, List.length_cons, List.length_take] at e
      omega
    have et : (u.take 301).take k = u.take k := by rw [List.take_take, Nat.min_eq_left (by omega)]
    rw [et] at h1 h2
    refine ⟨⟨r ++ u.drop 301, ?_⟩, h1, by rw [List.length_take]; omega⟩
    have e : u = u.take 301 ++ u.drop 301 := (List.take_append_drop 301 u).symm
    rw [h2] at e
    rw [List.append_assoc, List.cons_append] at e
    exact e
theorem lineOf_inc {u : Tx} (h : lineOf u = .inc) : 10 ∉ u ∧ u.length ≤ 300 := by
  unfold lineOf at h
  cases q : nlAt (u.take 301) with
  | some k => rw [q] at h; cases h
  | none =>
    rw [q] at h
    simp only at h
    by_cases e : u.length > 300
    · rw [if_pos e] at h; cases h
    · have := nlAt_none q
      rw [List.take_of_length_le (by omega)] at this
      exact ⟨this, by omega⟩
theorem lineOf_bad {u : Tx} (h : lineOf u = .bad) : 10 ∉ u.take 301 ∧ 300 < u.length := by
  unfold lineOf at h
  cases q : nlAt (u.take 301) with
  | some k => rw [q] at h; cases h
  | none =>
    rw [q] at h
    simp only at h
    by_cases e : u.length > 300
    · exact ⟨nlAt_none q, by omega⟩
    · rw [if_neg e] at h; cases h
section
variable (P : Pm)
def Good (t : Tx) : Prop := ∀ c ∈ t, c = 10 ∨ P.plain c = true
variable {P}
theorem Good.drop {t : Tx} (h : Good P t) (a : Nat) : Good P (t.drop a) := fun c hc => h c (List.mem_of_mem_drop hc)
theorem Good.left {a b : Tx} (h : Good P (a ++ b)) : Good P a := fun c hc => h c (List.mem_append_left _ hc)
theorem Good.right {a b : Tx} (h : Good P (a ++ b)) : Good P b := fun c hc => h c (List.mem_append_right _ hc)
/-! ### the run -/
theorem run_nil (s : RS) : run P s [] = ([], s) := rfl
theorem run_fault {s : RS} (h : s.fault ≠ none) (cs : Tx) : run P s cs = ([], s) := by
  cases cs with
  | nil => rfl
  | cons c r => unfold run; rw [if_pos h]
theorem run_cons {s : RS} (h : s.fault = none) (c : Nat) (cs : Tx) : run P s (c :: cs) = ((readSign P s c).2.toList ++ (run P (readSign P s c).1 cs).1, (run P (readSign P s c).1 cs).2) := by
  conv => lhs; unfold run
  rw [if_neg (by rw [h]; simp)]
theorem run_append : ∀ (a b : Tx) (s : RS), run P s (a ++ b) = ((run P s a).1 ++ (run P (run P s a).2 b).1, (run P (run P s a).2 b).2)
  | [], b, s => by simp [run_nil]
  | c :: a, b, s => by
    by_cases h : s.fault = none
    · rw [List.cons_append, run_cons h, run_cons h, run_append a b]
      simp
    · rw [run_fault h, run_fault h]
      simp [run_fault h]
/-- one sign that completes no message -/
theorem run_step {s s1 : RS} {c : Nat} (h : s.fault = none) (e : readSign P s c = (s1, none)) (cs : Tx) : run P s (c :: cs) = run P s1 cs := by
  rw [run_cons h, e]; rfl
theorem run_step' {s s1 : RS} {c : Nat} {m : Row} (h : s.fault = none) (e : readSign P s c = (s1, some m)) (cs : Tx) : run P s (c :: cs) = (m :: (run P s1 cs).1, (run P s1 cs).2) := by
  rw [run_cons h, e]; rfl

structure LineSt (s : RS) : Prop where
  fault : s.fault = none
  nb : ¬ (s.stage = .body ∨ s.stage = .chunk)
  ne : s.stage ≠ .ends
theorem sign_line {s : RS} (L : LineSt s) {c : Nat} (h10 : c ≠ 10) (hg : c = 10 ∨ P.plain c = true) (hl : s.line.length < 300) :
    readSign P s c = ({ s with line := s.line ++ [c], read := s.read + 1 }, none) := by
  have hp : P.plain c = true := by rcases hg with e | e; exact absurd e h10; exact e
  unfold readSign readSign0 RS.tick
  rw [if_neg (by rw [hp]; simp), if_neg L.nb, if_neg L.ne, if_neg h10, if_neg (by omega)]
theorem run_chars : ∀ {l : Tx} {s : RS}, LineSt s → 10 ∉ l → Good P l → s.line.length + l.length ≤ 300 → ∀ r, run P s (l ++ r) = run P { s with line := s.line ++ l, read := s.read + l.length } r
  | [], s, _, _, _, _, r => by simp
  | c :: l, s, L, h10, hg, hl, r => by
    simp only [List.mem_cons, not_or] at h10
    rw [List.length_cons] at hl
    rw [List.cons_append, run_step L.fault (sign_line L (fun e => h10.1 e.symm) (hg c (by simp)) (by omega)),
      run_chars (s := { s with line := s.line ++ [c], read := s.read + 1 }) ⟨L.fault, L.nb, L.ne⟩ h10.2 (fun d hd => hg d (by simp [hd])) (by simp; omega) r]
    congr 1
    simp only [List.append_assoc, List.singleton_append, List.length_cons]
    congr 1
    omega
/-- what a whole line does -/
def afterLine (P : Pm) (s : RS) (l : Tx) : RS × Option Row := RS.tick (readLine P { s with line := l, read := s.read + l.length })
theorem run_ln {s : RS} (L : LineSt s) (hl0 : s.line = []) {l r : Tx} (h10 : 10 ∉ l) (hg : Good P l) (hl : l.length ≤ 300) :
    run P s (l ++ 10 :: r) = ((afterLine P s l).2.toList ++ (run P (afterLine P s l).1 r).1, (run P (afterLine P s l).1 r).2) := by
  rw [run_chars L h10 hg (by rw [hl0]; simpa using hl), run_cons (by exact L.fault)]
  have e : readSign P { s with line := s.line ++ l, read := s.read + l.length } 10 = afterLine P s l := by
    unfold readSign readSign0 afterLine
    rw [if_neg (by simp), if_neg L.nb, if_neg L.ne, if_pos rfl, hl0, List.nil_append]
  rw [e]
theorem run_inc {s : RS} (L : LineSt s) (hl0 : s.line = []) {u : Tx} (h10 : 10 ∉ u) (hg : Good P u) (hl : u.length ≤ 300) :
    run P s u = ([], { s with line := u, read := s.read + u.length }) := by
  have e := run_chars L h10 hg (by rw [hl0]; simpa using hl) []
  rw [List.append_nil, hl0, List.nil_append] at e
  rw [e, run_nil]
theorem run_bad {s : RS} (L : LineSt s) (hl0 : s.line = []) {u : Tx} (h10 : 10 ∉ u.take 301) (hg : Good P u) (hl : 300 < u.length) :
    ∃ s', run P s u = ([], s') ∧ s'.stage = .broken ∧ s'.fault = some (.long, (s.read : Int)) ∧ s'.done = s.done := by
  have e1 : u = u.take 300 ++ u.drop 300 := (List.take_append_drop 300 u).symm
  have h10' : 10 ∉ u.take 300 := fun z => h10 (by
    have : u.take 300 = (u.take 301).take 300 := by rw [List.take_take]; rfl
    rw [this] at z
    exact List.mem_of_mem_take z)
  have ed : u.drop 300 = u[300] :: u.drop 301 := List.drop_eq_getElem_cons hl
  have hl3 : (u.take 300).length = 300 := by rw [List.length_take]; omega
  have hc10 : u[300] ≠ 10 := fun z => h10 (by
    rw [← z]
    have : (u.take 301)[300]'(by rw [List.length_take]; omega) = u[300] := List.getElem_take
    rw [← this]
    exact List.getElem_mem _)
  have hgc : u[300] = 10 ∨ P.plain u[300] = true := hg _ (List.getElem_mem hl)
  have hpl : P.plain u[300] = true := by rcases hgc with e | e; exact absurd e hc10; exact e
  have hg3 : Good P (u.take 300) := fun c hc => hg c (List.mem_of_mem_take hc)
  let s1 : RS := { s with line := u.take 300, read := s.read + 300 }
  have er : run P s u = run P s1 (u.drop 300) := by
    conv => lhs; rw [e1]
    rw [run_chars L h10' hg3 (by rw [hl0, hl3]; simp), hl0, hl3, List.nil_append]
  have es : readSign P s1 u[300] = ({ s1.off .long ((s1.read : Int) - 300) with read := s1.read + 1 }, none) := by
    unfold readSign readSign0 RS.tick
    rw [if_neg (by rw [hpl]; simp), if_neg (show ¬ (s1.stage = .body ∨ s1.stage = .chunk) from L.nb), if_neg (show s1.stage ≠ .ends from L.ne), if_neg hc10, if_pos (show s1.line.length = 300 from hl3)]
    rfl
  refine ⟨{ s1.off .long ((s1.read : Int) - 300) with read := s1.read + 1 }, ?_, ?_, ?_, ?_⟩
  · rw [er, ed, run_step (show s1.fault = none from L.fault) es, run_fault (by simp [RS.off])]
  · rfl
  · have e : (((s.read + 300 : Nat) : Int) - 300) = (s.read : Int) := by omega
    show some (FK.long, ((s.read + 300 : Nat) : Int) - 300) = some (FK.long, (s.read : Int))
    rw [e]
  · rfl
end
end K6

/-! KM3: the fields, the chunks, the bodies: what the machine does over them. -/
namespace K6
theorem drop_line {t l r : Tx} {a c : Nat} (ha : a ≤ t.length) (h : t.drop a = l ++ c :: r) : r = t.drop (a + l.length + 1) ∧ a + l.length + 1 ≤ t.length := by
  have e := congrArg List.length h
  simp only [List.length_drop, List.length_append, List.length_cons] at e
  refine ⟨?_, by omega⟩
  have e2 := congrArg (List.drop (l.length + 1)) h
  rw [List.drop_drop] at e2
  have e3 : (l ++ c :: r).drop (l.length + 1) = r := by
    rw [show l ++ c :: r = (l ++ [c]) ++ r by simp, show l.length + 1 = (l ++ [c]).length by simp, List.drop_left]
  rw [e3] at e2
  rw [← e2, Nat.add_assoc]
structure Done (s' : RS) (n : Nat) (flag : Stg × Flt) (opn : Option (List Row)) : Prop where
  stage : s'.stage = flag.1
  fault : s'.fault = flag.2
  fin : flag.2 = none → s'.read = n ∧ (match opn with
    | none => finish s' = ([], s'.off .cut s'.read)
    | some rows => (finish s').1 = rows ∧ (finish s').2.stage = .closed ∧ (finish s').2.fault = none ∧ (finish s').2.done = s'.done + rows.length)
theorem Done.flt {s' : RS} {n : Nat} {g : Stg} {f : FK × Int} {o : Option (List Row)} (h1 : s'.stage = g) (h2 : s'.fault = some f) : Done s' n (g, some f) o := ⟨h1, h2, fun z => nomatch z⟩
theorem finish_cut {s : RS} (h1 : s.fault = none) (h2 : ¬ (s.stage = .start ∧ s.line = [])) (h3 : s.stage = .body → ∀ d, s.draft = some d → d.opn = false) : finish s = ([], s.off .cut s.read) := by
  unfold finish
  rw [if_neg (by rw [h1]; simp), if_neg h2]
  split
  · rename_i d hd
    rw [if_neg]
    rintro ⟨e1, e2⟩
    rw [h3 e1 d hd] at e2
    cases e2
  · rfl
section
variable {P : Pm}
theorem tick_complete (s : RS) : RS.tick (complete s) = complete { s with read := s.read + 1 } := by
  obtain ⟨a, b, c, d, e, f⟩ := s
  cases f <;> rfl
theorem tick_begin (s : RS) : RS.tick (beginBody P s) = beginBody P { s with read := s.read + 1 } := by
  obtain ⟨a, b, c, d, e, f⟩ := s
  cases f with
  | none => rfl
  | some d =>
    unfold beginBody
    simp only
    split
    · rfl
    · split
      · rfl
      · exact tick_complete _
/-- where the fields end -/
def HeadOut (P : Pm) (t : Tx) (tr : Bool) (s : RS) (d : Dr) (a : Nat) (h : HR) : Prop :=
  match h.flag with
  | some f => ∃ s', run P s (t.drop a) = ([], s') ∧ s'.done = s.done ∧ Done s' t.length f none
  | none => a < h.pos ∧ h.pos ≤ t.length ∧ ∃ q, q = (if tr = true then complete { s with read := h.pos, draft := some { d with fields := h.fields } }
        else beginBody P { s with read := h.pos, draft := some { d with fields := h.fields, frame := h.frame } }) ∧
      run P s (t.drop a) = (q.2.toList ++ (run P q.1 (t.drop h.pos)).1, (run P q.1 (t.drop h.pos)).2)
theorem head_run {t : Tx} (G : Good P t) (tr : Bool) : ∀ (fuel a : Nat) (s : RS) (d : Dr) (fs : List Fld) (fr : Option Tx), t.length - a < fuel → a ≤ t.length → s.fault = none → s.stage = (if tr = true then .trailer else .fields) →
    s.line = [] → s.read = a → s.draft = some d → d.fields = fs → (tr = false → d.frame = fr) → d.opn = false → HeadOut P t tr s d a (lawHead P t d.start tr fuel a fs fr)
  | 0, a, s, d, fs, fr, h, _, _, _, _, _, _, _, _, _ => absurd h (Nat.not_lt_zero _)
  | fuel + 1, a, s, d, fs, fr, hf, ha, hft, hst, hln, hrd, hdr, hfs, hfr, hop => by
    have L : LineSt s := ⟨hft, by rw [hst]; cases tr <;> simp, by rw [hst]; cases tr <;> simp⟩
    have Gu : Good P (t.drop a) := G.drop a
    unfold lawHead lawLine
    cases hl : lineOf (t.drop a) with
    | inc =>
      obtain ⟨h1, h2⟩ := lineOf_inc hl
      have e := run_inc L hln h1 Gu h2
      have hread : s.read + (t.drop a).length = t.length := by rw [List.length_drop]; omega
      refine ⟨_, e, rfl, ?_, hft, fun _ => ⟨hread, ?_⟩⟩
      · show s.stage = _
        rw [hst]
      · refine finish_cut (show s.fault = none from hft) ?_ ?_
        · show ¬ (s.stage = .start ∧ _)
          rw [hst]
          cases tr <;> simp
        · intro z
          exact absurd (show s.stage = .body from z) fun z => L.nb (.inl z)
    | bad =>
      obtain ⟨h1, h2⟩ := lineOf_bad hl
      obtain ⟨s', e1, e2, e3, e4⟩ := run_bad L hln h1 Gu h2
      exact ⟨s', e1, e4, Done.flt e2 (by rw [e3, hrd])⟩
    | ln l =>
      obtain ⟨⟨r, hu⟩, h10, hlen⟩ := lineOf_ln hl
      obtain ⟨hr, hle⟩ := drop_line ha hu
      have Gl : Good P l := fun c hc => Gu c (by rw [hu]; exact List.mem_append_left _ hc)
      have run1 := run_ln (P := P) L hln (r := r) h10 Gl hlen
      rw [← hu] at run1
      simp only
      by_cases h0 : l = []
      · subst h0
        rw [if_pos rfl]
        simp only [List.length_nil, Nat.add_zero] at hr hle
        have ea : afterLine P s [] = (if tr = true then complete { s with read := a + 1, draft := some { d with fields := fs } } else beginBody P { s with read := a + 1, draft := some { d with fields := fs, frame := fr } }) := by
          have ed : ({ d with fields := fs } : Dr) = d := by rw [← hfs]
          unfold afterLine readLine
          simp only [List.length_nil, Nat.add_zero]
          cases tr with
          | true =>
            simp only [if_true] at hst
            rw [if_neg (by simp [hst]), if_neg (by simp [hst]), if_pos trivial, if_pos (by simp [hst]), tick_complete, if_pos rfl, ed, hrd, ← hdr]
            congr 1
            simp [hln]
          | false =>
            have ed2 : ({ d with fields := fs, frame := fr } : Dr) = d := by rw [← hfs, ← hfr rfl]
            simp only [Bool.false_eq_true, if_false] at hst
            rw [if_neg (by simp [hst]), if_neg (by simp [hst]), if_pos trivial, if_neg (by simp [hst]), tick_begin, if_neg (by simp), ed2, hrd, ← hdr]
            congr 1
            simp [hln]
        exact ⟨by show a < a + 1; omega, hle, _, rfl, by rw [run1, ← hr, ea]⟩
      · rw [if_neg h0]
        have erest : afterLine P s l = RS.tick (readFieldLine P { s with line := [], read := a + l.length } l (a : Int), none) := by
          unfold afterLine readLine
          have e1 : (((s.read + l.length : Nat) : Int) - (l.length : Int)) = (a : Int) := by omega
          simp only [e1]
          rw [if_neg (by rw [hst]; cases tr <;> simp), if_neg (by rw [hst]; cases tr <;> simp), if_neg h0, hrd]
        have elr : P.lineRes (P.may d.start) (decide (s.stage = .trailer)) d.frame d.fields.length l = P.lineRes (P.may d.start) tr fr fs.length l := by
          rw [hst, hfs]
          cases tr with
          | true => exact P.trailerFrame _ _ _ _ _
          | false => rw [hfr rfl]; rfl
        cases hlr : P.lineRes (P.may d.start) tr fr fs.length l with
        | bad k =>
          have e2 : afterLine P s l = ({ ({ s with line := [], read := a + l.length } : RS).off k a with read := a + l.length + 1 }, none) := by
            rw [erest]
            unfold readFieldLine RS.tick
            simp only [hdr, elr, hlr]
            rfl
          refine ⟨{ ({ s with line := [], read := a + l.length } : RS).off k a with read := a + l.length + 1 }, ?_, rfl, Done.flt rfl rfl⟩
          · rw [run1, e2, run_fault (by simp [RS.off])]
            rfl
        | frame v =>
          obtain ⟨rfl, rfl, _⟩ := P.frameOk _ _ _ _ _ _ hlr
          have e2 : afterLine P s l = ({ s with line := [], read := a + l.length + 1, draft := some { d with frame := some v } }, none) := by
            rw [erest]
            unfold readFieldLine RS.tick
            simp only [hdr, elr, hlr]
          have ih := head_run G false fuel (a + l.length + 1) { s with line := [], read := a + l.length + 1, draft := some { d with frame := some v } } { d with frame := some v } fs (some v) (by omega) hle hft hst rfl rfl rfl hfs (fun _ => rfl) hop
          have e3 : run P s (t.drop a) = run P { s with line := [], read := a + l.length + 1, draft := some { d with frame := some v } } (t.drop (a + l.length + 1)) := by
            rw [run1, e2, ← hr]
            rfl
          simp only
          unfold HeadOut at ih ⊢
          rw [e3]
          split
          · rename_i f hfl
            rw [hfl] at ih
            exact ih
          · rename_i hfl
            rw [hfl] at ih
            obtain ⟨i1, i2, q, i3, i4⟩ := ih
            simp only at i1 i2
            refine ⟨by omega, i2, q, ?_, i4⟩
            rw [i3]
            simp [hln]
        | field n v =>
          have e2 : afterLine P s l = ({ s with line := [], read := a + l.length + 1, draft := some { d with fields := d.fields ++ [(n, v)] } }, none) := by
            rw [erest]
            unfold readFieldLine RS.tick
            simp only [hdr, elr, hlr]
          have ih := head_run G tr fuel (a + l.length + 1) { s with line := [], read := a + l.length + 1, draft := some { d with fields := d.fields ++ [(n, v)] } } { d with fields := d.fields ++ [(n, v)] } (fs ++ [(n, v)]) fr (by omega) hle hft hst rfl rfl rfl (by rw [← hfs]) hfr hop
          have e3 : run P s (t.drop a) = run P { s with line := [], read := a + l.length + 1, draft := some { d with fields := d.fields ++ [(n, v)] } } (t.drop (a + l.length + 1)) := by
            rw [run1, e2, ← hr]
            rfl
          simp only
          unfold HeadOut at ih ⊢
          rw [e3]
          split
          · rename_i f hfl
            rw [hfl] at ih
            exact ih
          · rename_i hfl
            rw [hfl] at ih
            obtain ⟨i1, i2, q, i3, i4⟩ := ih
            simp only at i1 i2
            refine ⟨by omega, i2, q, ?_, i4⟩
            rw [i3]
            simp [hln]
end
end K6

/-! KM4: chunks, bodies. -/
namespace K6
section
variable {P : Pm}
theorem sign_due {s : RS} {d : Dr} {c : Nat} (hs : s.stage = .body ∨ s.stage = .chunk) (hd : s.draft = some d) (ho : d.opn = false) (hg : c = 10 ∨ P.plain c = true) (h1 : 1 < d.due) :
    readSign P s c = ({ s with draft := some { d with signs := d.signs ++ [c], due := d.due - 1 }, read := s.read + 1 }, none) := by
  unfold readSign readSign0 RS.tick
  rw [if_neg (by rcases hg with e | e <;> simp [e]), if_pos hs]
  unfold readBodySign
  simp only [hd, ho]
  rw [if_neg (by simp), if_pos (by omega)]
theorem sign_last {s : RS} {d : Dr} {c : Nat} (hs : s.stage = .chunk) (hd : s.draft = some d) (ho : d.opn = false) (hg : c = 10 ∨ P.plain c = true) (h1 : d.due = 1) :
    readSign P s c = ({ s with stage := .ends, draft := some { d with signs := d.signs ++ [c], due := 0 }, read := s.read + 1 }, none) := by
  unfold readSign readSign0 RS.tick
  rw [if_neg (by rcases hg with e | e <;> simp [e]), if_pos (.inr hs)]
  unfold readBodySign
  simp only [hd, ho]
  rw [if_neg (by simp), if_neg (by omega), if_neg (by simp [hs]), h1]
  rfl
theorem sign_lastB {s : RS} {d : Dr} {c : Nat} (hs : s.stage = .body) (hd : s.draft = some d) (ho : d.opn = false) (hg : c = 10 ∨ P.plain c = true) (h1 : d.due = 1) :
    readSign P s c = complete { s with draft := some { d with signs := d.signs ++ [c], due := 0 }, read := s.read + 1 } := by
  unfold readSign readSign0
  rw [if_neg (by rcases hg with e | e <;> simp [e]), if_pos (.inl hs)]
  unfold readBodySign
  simp only [hd, ho]
  rw [if_neg (by simp), if_neg (by omega), if_pos hs, tick_complete, h1]
  rfl
theorem run_due : ∀ {w : Tx} {s : RS} {d : Dr}, s.fault = none → (s.stage = .body ∨ s.stage = .chunk) → s.draft = some d → d.opn = false → Good P w → (w.length : Int) < d.due → ∀ r,
    run P s (w ++ r) = run P { s with draft := some { d with signs := d.signs ++ w, due := d.due - w.length }, read := s.read + w.length } r
  | [], s, d, _, _, hd, _, _, _, r => by
    have e : ({ s with draft := some { d with signs := d.signs ++ [], due := d.due - (([] : Tx).length : Int) }, read := s.read + ([] : Tx).length } : RS) = s := by
      obtain ⟨a, b, c, f, g, h⟩ := s
      simp only at hd
      subst hd
      simp
    rw [e, List.nil_append]
  | c :: w, s, d, hf, hs, hd, ho, hg, hl, r => by
    simp only [List.length_cons] at hl
    rw [List.cons_append, run_step hf (sign_due hs hd ho (hg c (by simp)) (by omega)),
      run_due (d := { d with signs := d.signs ++ [c], due := d.due - 1 }) (by exact hf) (by exact hs) rfl ho (fun x hx => hg x (by simp [hx])) (by show (w.length : Int) < d.due - 1; omega) r]
    congr 1
    simp only [List.append_assoc, List.singleton_append, List.length_cons]
    have e1 : d.due - 1 - (w.length : Int) = d.due - ((w.length + 1 : Nat) : Int) := by omega
    have e2 : s.read + 1 + w.length = s.read + (w.length + 1) := by omega
    rw [e1, e2]
theorem Good.take {t : Tx} (h : Good P t) (a : Nat) : Good P (t.take a) := fun c hc => h c (List.mem_of_mem_take hc)
/-- n signs ahead, n at least one: all but the last, the last -/
theorem take_last {u : Tx} {n : Nat} (hn : 0 < n) (hu : n ≤ u.length) : ∃ w c, w.length + 1 = n ∧ u.take n = w ++ [c] ∧ u = w ++ c :: u.drop n := by
  refine ⟨u.take (n - 1), u[n - 1], by rw [List.length_take]; omega, ?_, ?_⟩
  · have e : n = n - 1 + 1 := by omega
    conv => lhs; rw [e]
    rw [List.take_succ_eq_append_getElem (by omega)]
  · have e : u = u.take (n - 1) ++ u.drop (n - 1) := (List.take_append_drop _ _).symm
    conv => lhs; rw [e]
    rw [List.drop_eq_getElem_cons (by omega)]
    have e2 : n - 1 + 1 = n := by omega
    rw [e2]
def ChunkOut (P : Pm) (t : Tx) (s : RS) (d : Dr) (a : Nat) (c : CR) : Prop :=
  match c.flag with
  | some f => ∃ s', run P s (t.drop a) = ([], s') ∧ s'.done = s.done ∧ Done s' t.length f none
  | none => a < c.pos ∧ c.pos ≤ t.length ∧ ∃ k : Int, run P s (t.drop a) = run P { s with stage := .trailer, read := c.pos, draft := some { d with signs := c.body, due := k } } (t.drop c.pos)
theorem chunk_run {t : Tx} (G : Good P t) : ∀ (fuel a : Nat) (s : RS) (d : Dr) (b : Tx), t.length - a < fuel → a ≤ t.length → s.fault = none → s.stage = .size →
    s.line = [] → s.read = a → s.draft = some d → d.signs = b → d.opn = false → ChunkOut P t s d a (lawChunked P t fuel a b)
  | 0, a, s, d, b, h, _, _, _, _, _, _, _, _ => absurd h (Nat.not_lt_zero _)
  | fuel + 1, a, s, d, b, hf, ha, hft, hst, hln, hrd, hdr, hb, hop => by
    have L : LineSt s := ⟨hft, by rw [hst]; simp, by rw [hst]; simp⟩
    have Gu : Good P (t.drop a) := G.drop a
    unfold lawChunked lawLine
    cases hl : lineOf (t.drop a) with
    | inc =>
      obtain ⟨h1, h2⟩ := lineOf_inc hl
      have e := run_inc L hln h1 Gu h2
      have hread : s.read + (t.drop a).length = t.length := by rw [List.length_drop]; omega
      refine ⟨_, e, rfl, hst, hft, fun _ => ⟨hread, finish_cut (show s.fault = none from hft) ?_ ?_⟩⟩
      · show ¬ (s.stage = .start ∧ _)
        rw [hst]; simp
      · intro z
        exact absurd (show s.stage = .body from z) fun z => L.nb (.inl z)
    | bad =>
      obtain ⟨h1, h2⟩ := lineOf_bad hl
      obtain ⟨s', e1, e2, e3, e4⟩ := run_bad L hln h1 Gu h2
      exact ⟨s', e1, e4, Done.flt e2 (by rw [e3, hrd])⟩
    | ln l =>
      obtain ⟨⟨r, hu⟩, h10, hlen⟩ := lineOf_ln hl
      obtain ⟨hr, hle⟩ := drop_line ha hu
      have Gl : Good P l := fun c hc => Gu c (by rw [hu]; exact List.mem_append_left _ hc)
      have run1 := run_ln (P := P) L hln (r := r) h10 Gl hlen
      rw [← hu] at run1
      simp only
      have erest : afterLine P s l = RS.tick (readSizeLine P { s with line := [], read := a + l.length } l (a : Int), none) := by
        unfold afterLine readLine
        have e1 : (((s.read + l.length : Nat) : Int) - (l.length : Int)) = (a : Int) := by omega
        simp only [e1]
        rw [if_pos (by exact hst), hrd]
      cases hn : P.num l with
      | none =>
        have e2 : afterLine P s l = ({ ({ s with line := [], read := a + l.length } : RS).off .chunk a with read := a + l.length + 1 }, none) := by
          rw [erest]
          unfold readSizeLine RS.tick
          simp only [hdr, hn]
          rfl
        refine ⟨{ ({ s with line := [], read := a + l.length } : RS).off .chunk a with read := a + l.length + 1 }, ?_, rfl, Done.flt rfl rfl⟩
        rw [run1, e2, run_fault (by simp [RS.off])]
        rfl
      | some n =>
        simp only
        by_cases hbig : 100000 < b.length + n
        · rw [if_pos hbig]
          have e2 : afterLine P s l = ({ ({ s with line := [], read := a + l.length } : RS).off .long a with read := a + l.length + 1 }, none) := by
            rw [erest]
            unfold readSizeLine RS.tick
            simp only [hdr, hn]
            rw [if_pos (by rw [hb]; exact hbig)]
            rfl
          refine ⟨{ ({ s with line := [], read := a + l.length } : RS).off .long a with read := a + l.length + 1 }, ?_, rfl, Done.flt rfl rfl⟩
          rw [run1, e2, run_fault (by simp [RS.off])]
          rfl
        · rw [if_neg hbig]
          by_cases hz : n = 0
          · rw [if_pos hz]
            have e2 : afterLine P s l = ({ s with line := [], read := a + l.length + 1, stage := .trailer }, none) := by
              rw [erest]
              unfold readSizeLine RS.tick
              simp only [hdr, hn]
              rw [if_neg (by rw [hb]; exact hbig), if_pos hz]
            refine ⟨by show a < a + l.length + 1; omega, hle, d.due, ?_⟩
            rw [run1, e2, ← hr]
            have ed : ({ d with signs := b, due := d.due } : Dr) = d := by rw [← hb]
            show ([] ++ _, _) = _
            rw [List.nil_append, ed, ← hdr, hln]
          · rw [if_neg hz]
            have e2 : afterLine P s l = ({ s with line := [], read := a + l.length + 1, stage := .chunk, draft := some { d with due := (n : Int) } }, none) := by
              rw [erest]
              unfold readSizeLine RS.tick
              simp only [hdr, hn]
              rw [if_neg (by rw [hb]; exact hbig), if_neg hz]
            have e3 : run P s (t.drop a) = run P { s with line := [], read := a + l.length + 1, stage := .chunk, draft := some { d with due := (n : Int) } } (t.drop (a + l.length + 1)) := by
              rw [run1, e2, ← hr]
              rfl
            have Gv : Good P (t.drop (a + l.length + 1)) := G.drop _
            by_cases hs : t.length < a + l.length + 1 + n
            · rw [if_pos hs]
              have hw : ((t.drop (a + l.length + 1)).length : Int) < (n : Int) := by rw [List.length_drop]; omega
              have e4 := run_due (P := P) (w := t.drop (a + l.length + 1)) (s := { s with line := [], read := a + l.length + 1, stage := .chunk, draft := some { d with due := (n : Int) } }) (d := { d with due := (n : Int) }) hft (.inr rfl) rfl hop Gv hw []
              rw [List.append_nil, run_nil] at e4
              refine ⟨_, e3.trans e4, rfl, rfl, hft, fun _ => ⟨?_, finish_cut (by exact hft) (by simp) (by intro z; cases z)⟩⟩
              show a + l.length + 1 + (t.drop (a + l.length + 1)).length = t.length
              rw [List.length_drop]; omega
            · rw [if_neg hs]
              obtain ⟨w, c, hwl, hwt, hwu⟩ := take_last (u := t.drop (a + l.length + 1)) (n := n) (by omega) (by rw [List.length_drop]; omega)
              rw [List.drop_drop] at hwu
              have Gw : Good P w := fun x hx => Gv x (by rw [hwu]; exact List.mem_append_left _ hx)
              have Gc : c = 10 ∨ P.plain c = true := Gv c (by rw [hwu]; simp)
              have e4 := run_due (P := P) (w := w) (s := { s with line := [], read := a + l.length + 1, stage := .chunk, draft := some { d with due := (n : Int) } }) (d := { d with due := (n : Int) }) hft (.inr rfl) rfl hop Gw (by show (w.length : Int) < (n : Int); omega) (c :: t.drop (a + l.length + 1 + n))
              have e5 : run P s (t.drop a) = run P { s with line := [], read := a + l.length + 1 + n, stage := .ends, draft := some { d with signs := b ++ (t.drop (a + l.length + 1)).take n, due := 0 } } (t.drop (a + l.length + 1 + n)) := by
                rw [e3]
                conv => lhs; rw [hwu]
                rw [e4, run_step (by exact hft) (sign_last (d := { d with signs := d.signs ++ w, due := (n : Int) - w.length }) rfl rfl hop Gc (by show (n : Int) - w.length = 1; omega)), hwt, hb]
                congr 1
                have e6 : a + l.length + 1 + w.length + 1 = a + l.length + 1 + n := by omega
                simp only [e6, List.append_assoc]
              by_cases hend : a + l.length + 1 + n = t.length
              · rw [if_pos hend]
                have e6 : t.drop (a + l.length + 1 + n) = [] := by rw [hend, List.drop_length]
                rw [e6, run_nil] at e5
                exact ⟨_, e5, rfl, rfl, hft, fun _ => ⟨hend, finish_cut (by exact hft) (by simp) (by intro z; cases z)⟩⟩
              · rw [if_neg hend]
                have hlt : a + l.length + 1 + n < t.length := by omega
                have e6 : t.drop (a + l.length + 1 + n) = t[a + l.length + 1 + n] :: t.drop (a + l.length + 1 + n + 1) := List.drop_eq_getElem_cons hlt
                have hg6 : t[a + l.length + 1 + n] = 10 ∨ P.plain t[a + l.length + 1 + n] = true := G _ (List.getElem_mem hlt)
                have ehd : (t.drop (a + l.length + 1 + n)).head? = some t[a + l.length + 1 + n] := by rw [e6]; rfl
                by_cases h10' : t[a + l.length + 1 + n] = 10
                · rw [if_neg (by rw [ehd, h10']; simp)]
                  have e7 : run P s (t.drop a) = run P { s with line := [], read := a + l.length + 1 + n + 1, stage := .size, draft := some { d with signs := b ++ (t.drop (a + l.length + 1)).take n, due := 0 } } (t.drop (a + l.length + 1 + n + 1)) := by
                    rw [e5, e6, run_step (by exact hft) (s1 := { s with line := [], read := a + l.length + 1 + n + 1, stage := .size, draft := some { d with signs := b ++ (t.drop (a + l.length + 1)).take n, due := 0 } })]
                    unfold readSign readSign0 RS.tick
                    rw [if_neg (by simp [h10']), if_neg (by simp), if_pos rfl]
                    unfold readChunkEnd
                    rw [if_pos h10']
                  have ih := chunk_run G fuel (a + l.length + 1 + n + 1) { s with line := [], read := a + l.length + 1 + n + 1, stage := .size, draft := some { d with signs := b ++ (t.drop (a + l.length + 1)).take n, due := 0 } } { d with signs := b ++ (t.drop (a + l.length + 1)).take n, due := 0 } (b ++ (t.drop (a + l.length + 1)).take n) (by omega) (by omega) hft rfl rfl rfl rfl rfl hop
                  unfold ChunkOut at ih ⊢
                  rw [e7]
                  split
                  · rename_i f hfl
                    rw [hfl] at ih
                    exact ih
                  · rename_i hfl
                    rw [hfl] at ih
                    obtain ⟨i1, i2, k, i3⟩ := ih
                    refine ⟨by omega, i2, k, ?_⟩
                    rw [i3]
                    simp [hln]
                · rw [if_pos (by rw [ehd]; simp [h10'])]
                  have e7 : readSign P { s with line := [], read := a + l.length + 1 + n, stage := .ends, draft := some { d with signs := b ++ (t.drop (a + l.length + 1)).take n, due := 0 } } t[a + l.length + 1 + n] =
                      ({ ({ s with line := [], read := a + l.length + 1 + n, stage := .ends, draft := some { d with signs := b ++ (t.drop (a + l.length + 1)).take n, due := 0 } } : RS).off .chunk ((a + l.length + 1 + n : Nat) : Int) with read := a + l.length + 1 + n + 1 }, none) := by
                    unfold readSign readSign0 RS.tick
                    rw [if_neg (by rcases hg6 with e | e; exact absurd e h10'; simp [e]), if_neg (by simp), if_pos rfl]
                    unfold readChunkEnd
                    rw [if_neg h10']
                    rfl
                  refine ⟨{ ({ s with line := [], read := a + l.length + 1 + n, stage := .ends, draft := some { d with signs := b ++ (t.drop (a + l.length + 1)).take n, due := 0 } } : RS).off .chunk ((a + l.length + 1 + n : Nat) : Int) with read := a + l.length + 1 + n + 1 }, ?_, rfl, Done.flt rfl rfl⟩
                  rw [e5, e6, run_step (by exact hft) e7, run_fault (by simp [RS.off])]
end
end K6

/-! KM5: a message, all messages, the whole text. -/
namespace K6
section
variable {P : Pm}
theorem notBad {c : Nat} (hg : c = 10 ∨ P.plain c = true) : ¬ (c ≠ 10 ∧ P.plain c = false) := fun ⟨a, b⟩ => by
  rcases hg with e | e
  · exact a e
  · rw [e] at b; cases b
theorem sign_open {s : RS} {d : Dr} {c : Nat} (hs : s.stage = .body) (hd : s.draft = some d) (ho : d.opn = true) (hg : c = 10 ∨ P.plain c = true) (hl : d.signs.length < 100000) :
    readSign P s c = ({ s with draft := some { d with signs := d.signs ++ [c] }, read := s.read + 1 }, none) := by
  unfold readSign readSign0 RS.tick
  rw [if_neg (by rcases hg with e | e <;> simp [e]), if_pos (.inl hs)]
  unfold readBodySign
  simp only [hd, ho]
  rw [if_pos trivial, if_neg (by omega)]
theorem run_open : ∀ {w : Tx} {s : RS} {d : Dr}, s.fault = none → s.stage = .body → s.draft = some d → d.opn = true → Good P w → d.signs.length + w.length ≤ 100000 → ∀ r,
    run P s (w ++ r) = run P { s with draft := some { d with signs := d.signs ++ w }, read := s.read + w.length } r
  | [], s, d, _, _, hd, _, _, _, r => by
    have e : ({ s with draft := some { d with signs := d.signs ++ [] }, read := s.read + ([] : Tx).length } : RS) = s := by
      obtain ⟨a, b, c, f, g, h⟩ := s
      simp only at hd
      subst hd
      simp
    rw [e, List.nil_append]
  | c :: w, s, d, hf, hs, hd, ho, hg, hl, r => by
    simp only [List.length_cons] at hl
    rw [List.cons_append, run_step hf (sign_open hs hd ho (hg c (by simp)) (by omega)),
      run_open (d := { d with signs := d.signs ++ [c] }) (by exact hf) (by exact hs) rfl ho (fun x hx => hg x (by simp [hx])) (by show (d.signs ++ [c]).length + w.length ≤ 100000; simp; omega) r]
    congr 1
    simp only [List.append_assoc, List.singleton_append, List.length_cons]
    have e2 : s.read + 1 + w.length = s.read + (w.length + 1) := by omega
    rw [e2]
/-- a reader between two messages -/
def initAt (n p : Nat) : RS := ⟨.start, none, n, p, [], none⟩
theorem init_eq : RS.init = initAt 0 0 := rfl
theorem complete_at {s : RS} {d : Dr} (h1 : s.fault = none) (h2 : s.line = []) (h3 : s.draft = some d) : complete s = (initAt (s.done + 1) s.read, some d.row) := by
  obtain ⟨a, b, c, f, g, h⟩ := s
  simp only at h1 h2 h3
  subst h1 h2 h3
  rfl
def BodyOut (P : Pm) (t : Tx) (q : RS × Option Row) (n p : Nat) (o : OR) : Prop :=
  match o.flag with
  | some f => ∃ s', (q.2.toList ++ (run P q.1 (t.drop p)).1, (run P q.1 (t.drop p)).2) = ([], s') ∧ s'.done = n ∧ Done s' t.length f o.opn
  | none => ∃ row, o.row = some row ∧ p ≤ o.pos ∧ o.pos ≤ t.length ∧
      (q.2.toList ++ (run P q.1 (t.drop p)).1, (run P q.1 (t.drop p)).2) = (row :: (run P (initAt (n + 1) o.pos) (t.drop o.pos)).1, (run P (initAt (n + 1) o.pos) (t.drop o.pos)).2)
theorem body_run {t : Tx} (G : Good P t) {s : RS} {d : Dr} {p : Nat} (hp : p ≤ t.length) (hf : s.fault = none) (hl : s.line = []) (hr : s.read = p) (hd : s.draft = some d) (h1 : d.signs = []) (h2 : d.due = 0) (h3 : d.opn = false) :
    BodyOut P t (beginBody P s) s.done p (lawBody P t p d.start d.fields d.frame) := by
  unfold lawBody beginBody
  simp only [hd]
  by_cases hc : d.frame = some P.chunksV
  · rw [if_pos hc, if_pos hc]
    have c := chunk_run G (t.length + 1) p { s with stage := .size } d [] (by omega) hp hf rfl hl hr hd h1 h3
    unfold ChunkOut at c
    simp only [hd] at c
    cases hcf : (lawChunked P t (t.length + 1) p []).flag with
    | some f =>
      rw [hcf] at c
      rw [if_pos (by simp)]
      obtain ⟨s', c1, c2, c3⟩ := c
      refine ⟨s', ?_, c2, c3⟩
      simp only [c1]
      rfl
    | none =>
      rw [hcf] at c
      rw [if_neg (by simp)]
      obtain ⟨c1, c2, k, c3⟩ := c
      have hh := head_run G true (t.length + 1) (lawChunked P t (t.length + 1) p []).pos { s with stage := .trailer, read := (lawChunked P t (t.length + 1) p []).pos, draft := some { d with signs := (lawChunked P t (t.length + 1) p []).body, due := k } }
        { d with signs := (lawChunked P t (t.length + 1) p []).body, due := k } d.fields none (by omega) c2 hf rfl hl rfl rfl rfl (fun z => nomatch z) h3
      unfold HeadOut at hh
      unfold BodyOut
      simp only at hh c3 ⊢
      rw [c3]
      cases hhf : (lawHead P t d.start true (t.length + 1) (lawChunked P t (t.length + 1) p []).pos d.fields none).flag with
      | some f =>
        rw [hhf] at hh
        obtain ⟨s', e1, e2, e3⟩ := hh
        refine ⟨s', ?_, e2, e3⟩
        simp only [e1]
        rfl
      | none =>
        rw [hhf] at hh
        obtain ⟨e1, e2, q, e3, e4⟩ := hh
        rw [if_pos trivial] at e3
        rw [complete_at (d := { d with fields := (lawHead P t d.start true (t.length + 1) (lawChunked P t (t.length + 1) p []).pos d.fields none).fields, signs := (lawChunked P t (t.length + 1) p []).body, due := k }) (by exact hf) (by exact hl) rfl] at e3
        refine ⟨_, rfl, by omega, e2, ?_⟩
        simp only [e4, e3]
        rfl
  · rw [if_neg hc, if_neg hc]
    by_cases ho : d.frame = none ∧ P.answers = true ∧ P.may d.start = true
    · rw [if_pos ho]
      obtain ⟨o1, o2, o3⟩ := ho
      have ef : d.framed P = { d with opn := true } := by
        unfold Dr.framed
        rw [o1]
        simp only [o2, o3, Bool.and_self]
      rw [ef, if_pos (.inl rfl)]
      by_cases hbig : t.length - p > 100000
      · rw [if_pos hbig]
        have e1 : t.drop p = (t.drop p).take 100000 ++ (t.drop p).drop 100000 := (List.take_append_drop _ _).symm
        have hlt : 100000 < (t.drop p).length := by rw [List.length_drop]; omega
        have e2 : (t.drop p).drop 100000 = (t.drop p)[100000] :: (t.drop p).drop (100000 + 1) := List.drop_eq_getElem_cons hlt
        have hl1 : ((t.drop p).take 100000).length = 100000 := by rw [List.length_take]; omega
        have Gu := G.drop p
        have e3 := run_open (P := P) (w := (t.drop p).take 100000) (s := { s with draft := some { d with opn := true }, stage := .body }) (d := { d with opn := true }) hf rfl rfl rfl (Gu.take _) (by simp only [h1, hl1, List.length_nil]; omega) ((t.drop p).drop 100000)
        rw [← e1, e2, hl1] at e3
        have hgc : (t.drop p)[100000] = 10 ∨ P.plain (t.drop p)[100000] = true := Gu _ (List.getElem_mem hlt)
        have e4 : readSign P { s with draft := some { d with opn := true, signs := d.signs ++ (t.drop p).take 100000 }, stage := .body, read := s.read + 100000 } (t.drop p)[100000] =
            ({ ({ s with draft := some { d with opn := true, signs := d.signs ++ (t.drop p).take 100000 }, stage := .body, read := s.read + 100000 } : RS).off .long (((s.read + 100000 : Nat) : Int) - 100000) with read := s.read + 100000 + 1 }, none) := by
          unfold readSign readSign0 RS.tick
          rw [if_neg (notBad hgc), if_pos (.inl rfl)]
          unfold readBodySign
          simp only
          rw [if_pos trivial, if_pos (by rw [h1, List.nil_append, hl1])]
          rfl
        refine ⟨{ ({ s with draft := some { d with opn := true, signs := d.signs ++ (t.drop p).take 100000 }, stage := .body, read := s.read + 100000 } : RS).off .long (((s.read + 100000 : Nat) : Int) - 100000) with read := s.read + 100000 + 1 }, ?_, rfl, Done.flt rfl ?_⟩
        · have e5 : run P { s with draft := some { d with opn := true }, stage := .body } (t.drop p) = ([], { ({ s with draft := some { d with opn := true, signs := d.signs ++ (t.drop p).take 100000 }, stage := .body, read := s.read + 100000 } : RS).off .long (((s.read + 100000 : Nat) : Int) - 100000) with read := s.read + 100000 + 1 }) := by
            rw [e3, run_step (by exact hf) e4, run_fault (by simp [RS.off])]
          simp only [e5]
          rfl
        · show some (FK.long, ((s.read + 100000 : Nat) : Int) - 100000) = _
          have e6 : (((s.read + 100000 : Nat) : Int) - 100000) = (p : Int) := by omega
          rw [e6]
      · rw [if_neg hbig]
        have e3 := run_open (P := P) (w := t.drop p) (s := { s with draft := some { d with opn := true }, stage := .body }) (d := { d with opn := true }) hf rfl rfl rfl (G.drop p) (by simp only [h1, List.length_nil, List.length_drop]; omega) []
        rw [List.append_nil, run_nil] at e3
        refine ⟨{ s with draft := some { d with opn := true, signs := d.signs ++ t.drop p }, stage := .body, read := s.read + (t.drop p).length }, ?_, ?_, ?_⟩
        · simp only [e3]
          rfl
        · rfl
        · refine ⟨rfl, hf, fun _ => ⟨?_, ?_⟩⟩
          · show s.read + (t.drop p).length = t.length
            rw [List.length_drop]; omega
          · unfold finish
            simp only [hf, h1, List.nil_append]
            rw [if_neg (by simp), if_neg (by simp), if_pos ⟨trivial, trivial⟩]
            exact ⟨rfl, rfl, rfl, rfl⟩
    · rw [if_neg ho]
      have en : ((d.framed P).opn = false) ∧ (d.framed P).signs = [] ∧ (d.framed P).start = d.start ∧ (d.framed P).fields = d.fields ∧ (d.framed P).due = ((bodyLen P d.frame : Nat) : Int) := by
        unfold Dr.framed bodyLen
        cases hfr : d.frame with
        | none =>
          refine ⟨?_, h1, rfl, rfl, h2⟩
          cases ha : P.answers with
          | false => rfl
          | true =>
            cases hm : P.may d.start with
            | false => rfl
            | true => exact absurd ⟨hfr, ha, hm⟩ ho
        | some v => exact ⟨h3, h1, rfl, rfl, rfl⟩
      obtain ⟨n1, n2, n3, n4, n5⟩ := en
      generalize bodyLen P d.frame = n at n5 ⊢
      by_cases hz : n = 0
      · subst hz
        rw [if_neg (by rw [n1, n5]; simp), if_neg (by omega)]
        rw [complete_at (d := d.framed P) (by exact hf) (by exact hl) rfl]
        refine ⟨_, rfl, Nat.le_refl _, hp, ?_⟩
        unfold Dr.row
        simp only [hr, n2, n3, n4, Nat.add_zero, List.take_zero]
        rfl
      · rw [if_pos (.inr (by rw [n5]; omega))]
        by_cases hs : t.length - p < n
        · rw [if_pos hs]
          have e3 := run_due (P := P) (w := t.drop p) (s := { s with draft := some (d.framed P), stage := .body }) (d := d.framed P) hf (.inl rfl) rfl n1 (G.drop p) (by rw [n5, List.length_drop]; omega) []
          rw [List.append_nil, run_nil] at e3
          refine ⟨{ s with draft := some { d.framed P with signs := (d.framed P).signs ++ t.drop p, due := (d.framed P).due - (t.drop p).length }, stage := .body, read := s.read + (t.drop p).length }, ?_, ?_, ?_⟩
          · simp only [e3]
            rfl
          · rfl
          · refine ⟨rfl, hf, fun _ => ⟨?_, finish_cut (by exact hf) (by simp) ?_⟩⟩
            · show s.read + (t.drop p).length = t.length
              rw [List.length_drop]; omega
            · intro _ d' hd'
              simp only [Option.some.injEq] at hd'
              subst hd'
              exact n1
        · rw [if_neg hs]
          obtain ⟨w, c, hwl, hwt, hwu⟩ := take_last (u := t.drop p) (n := n) (by omega) (by rw [List.length_drop]; omega)
          rw [List.drop_drop] at hwu
          have Gv := G.drop p
          have Gw : Good P w := fun x hx => Gv x (by rw [hwu]; exact List.mem_append_left _ hx)
          have Gc : c = 10 ∨ P.plain c = true := Gv c (by rw [hwu]; simp)
          have e4 := run_due (P := P) (w := w) (s := { s with draft := some (d.framed P), stage := .body }) (d := d.framed P) hf (.inl rfl) rfl n1 Gw (by rw [n5]; omega) (c :: t.drop (p + n))
          rw [← hwu] at e4
          have e5 := sign_lastB (P := P) (s := { s with draft := some { d.framed P with signs := (d.framed P).signs ++ w, due := (d.framed P).due - w.length }, stage := .body, read := s.read + w.length }) (d := { d.framed P with signs := (d.framed P).signs ++ w, due := (d.framed P).due - w.length }) (c := c) rfl rfl n1 Gc (by show (d.framed P).due - w.length = 1; rw [n5]; omega)
          rw [complete_at (d := { d.framed P with signs := (d.framed P).signs ++ w ++ [c], due := 0 }) (by exact hf) (by exact hl) rfl] at e5
          refine ⟨_, rfl, by show p ≤ p + n; omega, by show p + n ≤ t.length; omega, ?_⟩
          have e6 := run_step' (P := P) (s := { s with draft := some { d.framed P with signs := (d.framed P).signs ++ w, due := (d.framed P).due - w.length }, stage := .body, read := s.read + w.length }) (by exact hf) e5 (t.drop (p + n))
          simp only at e4 e6 ⊢
          rw [e4, e6]
          unfold Dr.row
          have e7 : s.read + w.length + 1 = p + n := by omega
          simp only [n2, n3, n4, List.nil_append, e7, hwt]
          rfl
end
end K6

/-! KM6: a message, all messages, the whole text; what finish gives. -/
namespace K6
section
variable {P : Pm}
theorem lineSt_init (n a : Nat) : LineSt (initAt n a) := ⟨rfl, by simp [initAt], by simp [initAt]⟩
theorem skip_run {t : Tx} (G : Good P t) : ∀ (fuel n a : Nat), t.length - a < fuel → a ≤ t.length →
    a ≤ lawSkip t fuel a ∧ lawSkip t fuel a ≤ t.length ∧ lawLine t (lawSkip t fuel a) ≠ .ln [] ∧ run P (initAt n a) (t.drop a) = run P (initAt n (lawSkip t fuel a)) (t.drop (lawSkip t fuel a))
  | 0, _, _, h, _ => absurd h (Nat.not_lt_zero _)
  | f + 1, n, a, h, ha => by
    unfold lawSkip
    cases hl : lawLine t a with
    | inc => exact ⟨Nat.le_refl _, ha, by simp [hl], rfl⟩
    | bad => exact ⟨Nat.le_refl _, ha, by simp [hl], rfl⟩
    | ln l =>
      cases l with
      | cons c r => exact ⟨Nat.le_refl _, ha, by simp [hl], rfl⟩
      | nil =>
        obtain ⟨⟨r, hu⟩, h10, hlen⟩ := lineOf_ln hl
        obtain ⟨hr, hle⟩ := drop_line ha hu
        simp only [List.length_nil, Nat.add_zero] at hr hle
        have run1 := run_ln (P := P) (lineSt_init n a) rfl (r := r) h10 (fun c hc => by cases hc) hlen
        rw [← hu] at run1
        have e : afterLine P (initAt n a) [] = (initAt n (a + 1), none) := by
          unfold afterLine readLine RS.tick initAt
          simp
        obtain ⟨i1, i2, i3, i4⟩ := skip_run G f n (a + 1) (by omega) hle
        refine ⟨by show a ≤ lawSkip t f (a + 1); omega, i2, i3, ?_⟩
        show _ = run P (initAt n (lawSkip t f (a + 1))) _
        rw [run1, e, ← i4, ← hr]
        rfl
def OneOut (P : Pm) (t : Tx) (n a : Nat) (o : OR) : Prop :=
  match o.flag with
  | some f => ∃ s', run P (initAt n a) (t.drop a) = ([], s') ∧ s'.done = n ∧ Done s' t.length f o.opn
  | none => ∃ row, o.row = some row ∧ a < o.pos ∧ o.pos ≤ t.length ∧ run P (initAt n a) (t.drop a) = (row :: (run P (initAt (n + 1) o.pos) (t.drop o.pos)).1, (run P (initAt (n + 1) o.pos) (t.drop o.pos)).2)
theorem one_run {t : Tx} (G : Good P t) (n a : Nat) (ha : a ≤ t.length) : OneOut P t n a (lawOne P t a) := by
  obtain ⟨k1, k2, k3, k4⟩ := skip_run (P := P) G (t.length + 1) n a (by omega) ha
  unfold lawOne
  simp only
  generalize lawSkip t (t.length + 1) a = b at k1 k2 k3 k4 ⊢
  have L := lineSt_init n b
  have Gu : Good P (t.drop b) := G.drop b
  cases hl : lawLine t b with
  | inc =>
    obtain ⟨h1, h2⟩ := lineOf_inc hl
    have e := run_inc L rfl h1 Gu h2
    have hread : b + (t.drop b).length = t.length := by rw [List.length_drop]; omega
    simp only
    by_cases hb : b = t.length
    · rw [if_pos hb]
      have e0 : t.drop b = [] := by rw [hb, List.drop_length]
      refine ⟨initAt n b, by rw [k4, e0, run_nil], rfl, rfl, rfl, fun _ => ⟨hb, ?_⟩⟩
      unfold finish initAt
      simp
    · rw [if_neg hb]
      refine ⟨_, by rw [k4, e], rfl, rfl, rfl, fun _ => ⟨hread, finish_cut rfl ?_ (by intro z; cases z)⟩⟩
      rintro ⟨_, z⟩
      have e1 := congrArg List.length (show t.drop b = [] from z)
      rw [List.length_drop] at e1
      simp only [List.length_nil] at e1
      omega
  | bad =>
    obtain ⟨h1, h2⟩ := lineOf_bad hl
    obtain ⟨s', e1, e2, e3, e4⟩ := run_bad L rfl h1 Gu h2
    exact ⟨s', by rw [k4, e1], e4, Done.flt e2 e3⟩
  | ln l =>
    have hne : l ≠ [] := fun z => k3 (by rw [hl, z])
    obtain ⟨⟨r, hu⟩, h10, hlen⟩ := lineOf_ln hl
    obtain ⟨hr, hle⟩ := drop_line k2 hu
    have Gl : Good P l := fun c hc => Gu c (by rw [hu]; exact List.mem_append_left _ hc)
    have run1 := run_ln (P := P) L rfl (r := r) h10 Gl hlen
    rw [← hu] at run1
    have erest : afterLine P (initAt n b) l = RS.tick (readStartLine P { initAt n b with read := b + l.length } l (b : Int), none) := by
      unfold afterLine readLine
      have e1 : (((((initAt n b).read + l.length : Nat)) : Int) - (l.length : Int)) = (b : Int) := by
        show (((b + l.length : Nat) : Int) - (l.length : Int)) = (b : Int)
        omega
      simp only [e1]
      rw [if_neg (by simp [initAt]), if_pos (show (initAt n b).stage = Stg.start from rfl), if_neg hne]
      rfl
    simp only
    by_cases hs : P.startOk l = false
    · rw [if_pos hs]
      have e2 : afterLine P (initAt n b) l = ({ ({ initAt n b with read := b + l.length } : RS).off .start b with read := b + l.length + 1 }, none) := by
        rw [erest]
        unfold readStartLine RS.tick
        rw [if_neg (by rw [hs]; simp)]
        rfl
      refine ⟨{ ({ initAt n b with read := b + l.length } : RS).off .start b with read := b + l.length + 1 }, ?_, rfl, Done.flt rfl rfl⟩
      rw [k4, run1, e2, run_fault (by simp [RS.off])]
      rfl
    · rw [if_neg hs]
      have hs' : P.startOk l = true := by
        cases q : P.startOk l with
        | true => rfl
        | false => exact absurd q hs
      have e2 : afterLine P (initAt n b) l = (⟨.fields, none, n, b + l.length + 1, [], some ⟨l, [], none, false, [], 0⟩⟩, none) := by
        rw [erest]
        unfold readStartLine RS.tick
        rw [if_pos hs']
        rfl
      have e3 : run P (initAt n a) (t.drop a) = run P ⟨.fields, none, n, b + l.length + 1, [], some ⟨l, [], none, false, [], 0⟩⟩ (t.drop (b + l.length + 1)) := by
        rw [k4, run1, e2, ← hr]
        rfl
      have hh := head_run G false (t.length + 1) (b + l.length + 1) ⟨.fields, none, n, b + l.length + 1, [], some ⟨l, [], none, false, [], 0⟩⟩ ⟨l, [], none, false, [], 0⟩ [] none (by omega) hle rfl rfl rfl rfl rfl rfl (fun _ => rfl) rfl
      unfold HeadOut at hh
      unfold OneOut
      simp only at hh
      rw [e3]
      cases hhf : (lawHead P t l false (t.length + 1) (b + l.length + 1) [] none).flag with
      | some f =>
        rw [hhf] at hh
        rw [if_pos (by simp)]
        exact hh
      | none =>
        rw [hhf] at hh
        rw [if_neg (by simp)]
        obtain ⟨e4, e5, q, e6, e7⟩ := hh
        rw [if_neg (by simp)] at e6
        have hb := body_run G (s := ⟨.fields, none, n, (lawHead P t l false (t.length + 1) (b + l.length + 1) [] none).pos, [], some ⟨l, (lawHead P t l false (t.length + 1) (b + l.length + 1) [] none).fields, (lawHead P t l false (t.length + 1) (b + l.length + 1) [] none).frame, false, [], 0⟩⟩)
          (d := ⟨l, (lawHead P t l false (t.length + 1) (b + l.length + 1) [] none).fields, (lawHead P t l false (t.length + 1) (b + l.length + 1) [] none).frame, false, [], 0⟩) e5 rfl rfl rfl rfl rfl rfl rfl
        rw [← e6] at hb
        unfold BodyOut at hb
        simp only at hb
        rw [e7]
        split
        · rename_i f hfl
          rw [hfl] at hb
          exact hb
        · rename_i hfl
          rw [hfl] at hb
          obtain ⟨row, b1, b2, b3, b4⟩ := hb
          exact ⟨row, b1, by omega, b3, b4⟩
theorem all_run {t : Tx} (G : Good P t) : ∀ (fuel n a : Nat) (rows : List Row), t.length - a < fuel → a ≤ t.length →
    ∃ f more s', (lawAll P t fuel (lawOne P t a) rows).2.flag = some f ∧ (lawAll P t fuel (lawOne P t a) rows).1 = rows ++ more ∧ run P (initAt n a) (t.drop a) = (more, s') ∧ s'.done = n + more.length ∧
      Done s' t.length f (lawAll P t fuel (lawOne P t a) rows).2.opn
  | 0, _, _, _, h, _ => absurd h (Nat.not_lt_zero _)
  | fuel + 1, n, a, rows, h, ha => by
    have o := one_run (P := P) G n a ha
    unfold lawAll
    unfold OneOut at o
    cases hf : (lawOne P t a).flag with
    | some f =>
      rw [hf] at o
      obtain ⟨s', o1, o2, o3⟩ := o
      rw [if_pos (by simp)]
      exact ⟨f, [], s', hf, by simp, o1, by simpa using o2, o3⟩
    | none =>
      rw [hf] at o
      obtain ⟨row, o1, o2, o3, o4⟩ := o
      rw [if_neg (by simp)]
      obtain ⟨f, more, s', i1, i2, i3, i4, i5⟩ := all_run G fuel (n + 1) (lawOne P t a).pos (rows ++ (lawOne P t a).row.toList) (by omega) o3
      refine ⟨f, row :: more, s', i1, ?_, ?_, ?_, i5⟩
      · rw [i2, o1]
        simp
      · rw [o4, i3]
      · rw [i4, List.length_cons]
        omega
theorem badAt_le : ∀ t : Tx, badAt P t ≤ t.length
  | [] => Nat.le_refl _
  | c :: r => by
    unfold badAt
    split
    · exact Nat.zero_le _
    · have := badAt_le r
      simp only [List.length_cons]
      omega
theorem badAt_good : ∀ t : Tx, Good P (t.take (badAt P t))
  | [] => fun c hc => by simp at hc
  | c :: r => by
    unfold badAt
    split
    · intro d hd
      simp at hd
    · rename_i h
      intro d hd
      rw [List.take_succ_cons] at hd
      rcases List.mem_cons.mp hd with e | e
      · subst e
        by_cases z : d = 10
        · exact .inl z
        · refine .inr ?_
          cases q : P.plain d with
          | true => rfl
          | false => exact absurd ⟨z, q⟩ h
      · exact badAt_good r d e
theorem badAt_bad : ∀ {t : Tx}, badAt P t < t.length → ∃ c r, t.drop (badAt P t) = c :: r ∧ c ≠ 10 ∧ P.plain c = false
  | [], h => absurd h (Nat.not_lt_zero _)
  | c :: r, h => by
    unfold badAt at h ⊢
    split
    · rename_i q
      exact ⟨c, r, rfl, q.1, q.2⟩
    · rename_i q
      rw [if_neg q] at h
      obtain ⟨d, r', e, h2⟩ := badAt_bad (t := r) (by simpa using h)
      exact ⟨d, r', by rw [List.drop_succ_cons]; exact e, h2⟩
theorem complete_brk {s : RS} (h : s.fault = none) : (complete s).1.fault = none := by
  unfold complete
  split <;> exact h
theorem sign_brk {s : RS} {c : Nat} (h : s.fault = none) : (readSign P s c).1.fault ≠ none → (readSign P s c).1.stage = .broken := by
  unfold readSign RS.tick
  show (readSign0 P s c).1.fault ≠ none → (readSign0 P s c).1.stage = .broken
  unfold readSign0
  split
  · intro _; rfl
  · split
    · unfold readBodySign
      split
      · intro z; exact absurd h z
      · split
        · split
          · intro _; rfl
          · intro z; exact absurd h z
        · split
          · intro z; exact absurd h z
          · split
            · intro z
              exact absurd (complete_brk (by exact h)) z
            · intro z; exact absurd h z
    · split
      · unfold readChunkEnd
        split
        · intro z; exact absurd h z
        · intro _; rfl
      · split
        · unfold readLine
          simp only
          split
          · unfold readSizeLine
            split
            · intro z; exact absurd h z
            · split
              · intro _; rfl
              · split
                · intro _; rfl
                · split <;> (intro z; exact absurd h z)
          · split
            · split
              · intro z; exact absurd h z
              · unfold readStartLine
                split
                · intro z; exact absurd h z
                · intro _; rfl
            · split
              · split
                · intro z
                  exact absurd (complete_brk (by exact h)) z
                · unfold beginBody
                  split
                  · intro z; exact absurd h z
                  · split
                    · intro z; exact absurd h z
                    · split
                      · intro z; exact absurd h z
                      · intro z
                        exact absurd (complete_brk (by exact h)) z
              · unfold readFieldLine
                split
                · intro z; exact absurd h z
                · split
                  · intro _; rfl
                  · intro z; exact absurd h z
                  · intro z; exact absurd h z
        · split
          · intro _; rfl
          · intro z; exact absurd h z
theorem run_brk : ∀ (t : Tx) (s : RS), (s.fault ≠ none → s.stage = .broken) → ((run P s t).2.fault ≠ none → (run P s t).2.stage = .broken)
  | [], _, h => h
  | c :: r, s, h => by
    by_cases hf : s.fault = none
    · rw [run_cons hf]
      exact run_brk r _ (sign_brk hf)
    · rw [run_fault hf]
      exact h
/-- what is known of the machine that has read the text -/
structure Agrees (P : Pm) (text : Tx) (s : RS) : Prop where
  rows : (run P RS.init text).1 = (reading P text).rows
  state : (run P RS.init text).2 = s
  stage : s.stage = (reading P text).stage
  fault : s.fault = (reading P text).fault
  done : s.done = (reading P text).rows.length
  erows : (ended P text).rows = (reading P text).rows
  more : (finish s).1 = (ended P text).more
  estage : (finish s).2.stage = (ended P text).stage
  efault : (finish s).2.fault = (ended P text).fault
  edone : (finish s).2.done = (ended P text).rows.length + (ended P text).more.length
theorem agrees (text : Tx) : Agrees P text (run P RS.init text).2 := by
  have G := badAt_good (P := P) text
  have hle := badAt_le (P := P) text
  have hwl : (text.take (badAt P text)).length = badAt P text := by rw [List.length_take]; omega
  obtain ⟨f, more, s', a1, a2, a3, a4, a5⟩ := all_run G ((text.take (badAt P text)).length + 1) 0 0 [] (by omega) (Nat.zero_le _)
  rw [List.drop_zero, ← init_eq] at a3
  rw [List.nil_append] at a2
  have esplit : text = text.take (badAt P text) ++ text.drop (badAt P text) := (List.take_append_drop _ _).symm
  have er : run P RS.init text = (more ++ (run P s' (text.drop (badAt P text))).1, (run P s' (text.drop (badAt P text))).2) := by
    conv => lhs; rw [esplit]
    rw [run_append, a3]
  have brk := run_brk (P := P) (text.take (badAt P text)) RS.init (fun z => absurd rfl z)
  rw [a3] at brk
  by_cases hbad : badAt P text < text.length ∧ f.2 = none
  · -- a character that is none of ours
    obtain ⟨hb, hf2⟩ := hbad
    obtain ⟨c, r, hd, hc10, hcp⟩ := badAt_bad hb
    have hsf : s'.fault = none := by rw [a5.fault, hf2]
    have hrd : s'.read = badAt P text := by rw [(a5.fin hf2).1, hwl]
    have hstep : readSign P s' c = ({ s'.off .character s'.read with read := s'.read + 1 }, none) := by
      unfold readSign readSign0 RS.tick
      rw [if_pos ⟨hc10, hcp⟩]
      rfl
    have e1 : run P s' (text.drop (badAt P text)) = ([], { s'.off .character s'.read with read := s'.read + 1 }) := by
      rw [hd, run_step hsf hstep, run_fault (by simp [RS.off])]
    rw [e1, List.append_nil] at er
    have eR : reading P text = ⟨more, .broken, some (.character, (badAt P text : Int)), none⟩ := by
      unfold reading
      simp only [a1, a2, Option.getD_some]
      rw [if_pos ⟨hb, hf2⟩]
    have eE : ended P text = ⟨more, [], .broken, some (.character, (badAt P text : Int))⟩ := by
      unfold ended
      simp only [eR]
      rw [if_pos (by simp)]
    have eF : finish { s'.off .character s'.read with read := s'.read + 1 } = ([], { s'.off .character s'.read with read := s'.read + 1 }) := by
      unfold finish
      rw [if_pos (by simp [RS.off])]
    rw [er]
    have e2 : some (FK.character, ((s'.read : Nat) : Int)) = some (FK.character, (badAt P text : Int)) := by rw [hrd]
    exact ⟨by rw [er, eR], by rw [er], by rw [eR]; rfl, by rw [eR]; exact e2, by rw [eR]; show s'.done = _; rw [a4]; simp, by rw [eE, eR], by rw [eF, eE], by rw [eF, eE]; rfl, by rw [eF, eE]; exact e2, by rw [eF, eE]; show s'.done = _; rw [a4]; simp⟩
  · have e1 : run P s' (text.drop (badAt P text)) = ([], s') := by
      by_cases hb : badAt P text < text.length
      · exact run_fault (by rw [a5.fault]; exact fun z => hbad ⟨hb, z⟩) _
      · have : text.drop (badAt P text) = [] := by rw [List.drop_eq_nil_iff]; omega
        rw [this, run_nil]
    rw [e1, List.append_nil] at er
    have eR : reading P text = ⟨more, f.1, f.2, (lawAll P (text.take (badAt P text)) ((text.take (badAt P text)).length + 1) (lawOne P (text.take (badAt P text)) 0) []).2.opn⟩ := by
      unfold reading
      simp only [a1, a2, Option.getD_some]
      rw [if_neg hbad]
    have hdn : s'.done = more.length := by rw [a4]; simp
    rw [er]
    cases hf2 : f.2 with
    | some k =>
      have hsf : s'.fault ≠ none := by rw [a5.fault, hf2]; simp
      have eE : ended P text = ⟨more, [], .broken, some k⟩ := by
        unfold ended
        simp only [eR, hf2]
        rw [if_pos (by simp)]
      have eF : finish s' = ([], s') := by
        unfold finish
        rw [if_pos hsf]
      refine ⟨by rw [er, eR], by rw [er], by rw [eR]; exact a5.stage, by rw [eR]; exact a5.fault, by rw [eR]; exact hdn, by rw [eE, eR], by rw [eF, eE], ?_, ?_, ?_⟩
      · rw [eF, eE]; exact brk hsf
      · rw [eF, eE]; show s'.fault = some k; rw [a5.fault, hf2]
      · rw [eF, eE]; simpa using hdn
    | none =>
      obtain ⟨h1, h2⟩ := a5.fin hf2
      have hbl : badAt P text = text.length := by
        have : ¬ badAt P text < text.length := fun z => hbad ⟨z, hf2⟩
        omega
      rw [hwl, hbl] at h1
      cases ho : (lawAll P (text.take (badAt P text)) ((text.take (badAt P text)).length + 1) (lawOne P (text.take (badAt P text)) 0) []).2.opn with
      | none =>
        rw [ho] at h2
        simp only at h2
        have eE : ended P text = ⟨more, [], .broken, some (.cut, (text.length : Int))⟩ := by
          unfold ended
          simp only [eR, hf2, ho]
          rw [if_neg (by simp)]
        refine ⟨by rw [er, eR], by rw [er], by rw [eR]; exact a5.stage, by rw [eR]; exact a5.fault, by rw [eR]; exact hdn, by rw [eE, eR], by rw [h2, eE], by rw [h2, eE]; rfl, ?_, ?_⟩
        · rw [h2, eE]; show some (FK.cut, ((s'.read : Nat) : Int)) = _; rw [h1]
        · rw [h2, eE]; simpa [RS.off] using hdn
      | some rows =>
        rw [ho] at h2
        simp only at h2
        obtain ⟨g1, g2, g3, g4⟩ := h2
        have eE : ended P text = ⟨more, rows, .closed, none⟩ := by
          unfold ended
          simp only [eR, hf2, ho]
          rw [if_neg (by simp)]
        refine ⟨by rw [er, eR], by rw [er], by rw [eR]; exact a5.stage, by rw [eR]; exact a5.fault, by rw [eR]; exact hdn, by rw [eE, eR], by rw [g1, eE], by rw [g2, eE], by rw [g3, eE], ?_⟩
        rw [g4, eE, hdn]
end
end K6

set_option Elab.async false
set_option linter.all false
set_option maxRecDepth 100000
set_option maxHeartbeats 4000000
/-! KW0: texts, heaps, promises: what all defs share. -/
namespace K6
open PySem PySem.Spec PyProof.Rows L2
def S (t : Tx) : PySem.Str := ⟨t.toArray⟩
theorem S_len (t : Tx) : (S t).length = t.length := by simp [S, PySem.Str.length]
theorem S_cps (t : Tx) : (S t).cps.toList = t := rfl
theorem S_inj {a b : Tx} (h : S a = S b) : a = b := congrArg TL.tl h
theorem S_tl (x : PySem.Str) : S (TL.tl x) = x := TL.mk_tl x
theorem S_app (a b : Tx) : S a ++ S b = S (a ++ b) := TL.ext_tl (TL.tl_append _ _)
theorem S_app' (a : Tx) (x : PySem.Str) : S a ++ x = S (a ++ TL.tl x) := TL.ext_tl (TL.tl_append _ _)
theorem app_S (x : PySem.Str) (a : Tx) : x ++ S a = S (TL.tl x ++ a) := TL.ext_tl (TL.tl_append _ _)
theorem dec_S (t : Tx) (x : PySem.Str) : decide (V.str (S t) = V.str x) = decide (t = TL.tl x) := by
  by_cases h : t = TL.tl x
  · subst h
    rw [S_tl]
    simp
  · rw [decide_eq_false h, decide_eq_false]
    intro z
    injection z with z
    exact h (by rw [← z]; rfl)
theorem dec_SS (t u : Tx) : decide (V.str (S t) = V.str (S u)) = decide (t = u) := dec_S t (S u)
/-! ### heaps -/
theorem same_new {H : Hp} {p : Addr} {o : HO} (h : H p = none) : Same H (upd H p o) := fun b x e => by
  rw [upd_ne (ne_of_none e h)]
  exact e
theorem same_mut {H H' : Hp} {p : Addr} {o : HO} (s : Same H H') (h : H p = none) : Same H (upd H' p o) := fun b x e => by
  rw [upd_ne (ne_of_none e h)]
  exact s b x e
theorem Same.seqT {K : PySem.W.Frag} {H H' : Hp} {a : Addr} {xs : List V} (e : Same H H') (h : SqT K H a xs) : SqT K H' a xs := by
  rcases h with (h | ⟨o, h⟩) | h
  · exact .inl (.inl (e _ _ h))
  · exact .inl (.inr ⟨o, e _ _ h⟩)
  · exact .inr h
/-! ### promises of defs by names -/
section
variable (P : Program) (w : World) (K : PySem.W.Frag) (mg : PySem.Str → Option Value) (base : Heap)
/-- a def of the module keeps a promise, at level k -/
def Ok (CX : CXT) (x : PySem.Str) (k : Nat) (ps : List PySem.Str) (sp : Sp) : Prop :=
  ∃ (f : Addr) (fd : FuncData), mg x = some (.ref f) ∧ PySem.W.keepIn K (.ref f) = true ∧ Binds K fd ps [] ∧ FnOk P w K mg base CX k f fd ps sp
/-- a method m of the class at C -/
def OkM (CX : CXT) (C : Addr) (m : PySem.Str) (k : Nat) (ps : List PySem.Str) (sp : Sp) : Prop :=
  ∃ (f : Addr) (fd : FuncData), Meth K C m f ∧ Binds K fd ps [] ∧ FnOk P w K mg base CX k f fd ps sp
/-- a def as it stands -/
def GFun (x : PySem.Str) (st : Stmt) : Prop := ∃ (f : Addr) (fd : FuncData), mg x = some (.ref f) ∧ Fun K x x st f fd
def MFun (C : Addr) (m qual : PySem.Str) (st : Stmt) : Prop := ∃ (f : Addr) (fd : FuncData), Meth K C m f ∧ Fun K m qual st f fd
end
section
variable {X : Cx} {k : Nat} {x m : PySem.Str} {ps : List PySem.Str} {sp : Sp} {C : Addr} {p pos apos : Pos} {e o : Expr} {es : List Expr} {ta : TE} {t : TA} {j : Nat}
theorem pe_callO (O : Ok X.prog X.w X.K X.mg X.base CX0 x j ps sp) (hr : Room k X.A) (hg : Gl X x) (ha : PA X (e :: es) t) (hj : j ≤ k := by decide) (hdb : (x == ("__debug__" : PySem.Str)) = false := by decide)
    (he : starEach (e :: es) X.env = (false, eval e X.env) :: starEach es X.env := by rfl) (hpl : (backTo pos (starEach es X.env)).any (·.1) = false := by rfl) :
    PE X (.Call (.Name x p) (e :: es) [] pos) (tCall sp [] E0 t) := by
  obtain ⟨f, fd, h1, h2, h3, h4⟩ := O
  exact pe_call h4 (hr.mono hj) hg h1 h2 h3 .nil pass0 ha hdb he hpl
theorem pe_callO0 (O : Ok X.prog X.w X.K X.mg X.base CX0 x j ps sp) (hr : Room k X.A) (hg : Gl X x) (hj : j ≤ k := by decide) (hdb : (x == ("__debug__" : PySem.Str)) = false := by decide) :
    PE X (.Call (.Name x p) [] [] pos) (tCall sp [] E0 tNil) := by
  obtain ⟨f, fd, h1, h2, h3, h4⟩ := O
  exact pe_call0 h4 (hr.mono hj) hg h1 h2 h3 .nil pass0 hdb
theorem pe_methO {pl : Sem Bool} (O : OkM X.prog X.w X.K X.mg X.base CX0 C m j ps sp) (he : PE X o ta) (c : Cls X.K C) (hr : Room k X.A) (ha : PA X (e :: es) t) (hj : j ≤ k := by decide)
    (hst : starEach (e :: es) X.env = (false, eval e X.env) :: starEach es X.env := by rfl) (hpl : (backTo pos (starEach es X.env)).any (·.1) = false := by rfl)
    (ht : eval (.Call (.Attribute o m apos) (e :: es) [] pos) X.env = (do
      let ov ← eval o X.env
      standAt apos.atName
      let (f, first) ← holding [ov] (getMethod ov m pl)
      callWith pos f first (backTo pos (starEach (e :: es) X.env)) (backToKw pos (keywordEach [] X.env))) := by rfl) :
    PE X (.Call (.Attribute o m apos) (e :: es) [] pos) (tMeth C m sp [] E0 ta t) := by
  obtain ⟨f, fd, h1, h3, h4⟩ := O
  exact pe_meth he c h1 h4 (hr.mono hj) h3 .nil pass0 ha hst hpl ht
theorem pe_methO0 {pl : Sem Bool} (O : OkM X.prog X.w X.K X.mg X.base CX0 C m j ps sp) (he : PE X o ta) (c : Cls X.K C) (hr : Room k X.A) (hj : j ≤ k := by decide)
    (ht : eval (.Call (.Attribute o m apos) [] [] pos) X.env = (do
      let ov ← eval o X.env
      standAt apos.atName
      let (f, first) ← holding [ov] (getMethod ov m pl)
      callWith pos f first (backTo pos (starEach [] X.env)) (backToKw pos (keywordEach [] X.env))) := by rfl) :
    PE X (.Call (.Attribute o m apos) [] [] pos) (tMeth C m sp [] E0 ta tNil) := by
  obtain ⟨f, fd, h1, h3, h4⟩ := O
  exact pe_meth0 he c h1 h4 (hr.mono hj) h3 .nil pass0 ht
end
/-! ### the text by places -/
def top (i : Nat) : Stmt := PySem.Challenge.pw_hopkeep_k06_whole_cutting_is_free.main.body.getD i (.Pass ⟨0, 0, 0, 0⟩)
end K6

set_option Elab.async false
set_option linter.all false
set_option maxRecDepth 100000
set_option maxHeartbeats 4000000
/-! KP: the texts' functions as functions on code points; the machine's parameters. -/
namespace K6
open PySem PySem.Spec PyProof.Rows L2
/-! ### the first place of a sign -/
def ixOf (c : Nat) : Tx → Option Nat
  | [] => none
  | d :: r => if d = c then some 0 else (ixOf c r).map (· + 1)
theorem nlAt_ix : ∀ t : Tx, nlAt t = ixOf 10 t
  | [] => rfl
  | d :: r => by unfold nlAt ixOf; rw [nlAt_ix r]
theorem ixOf_none {c : Nat} : ∀ {t : Tx}, (∀ j : Nat, t[j]? ≠ some c) → ixOf c t = none
  | [], _ => rfl
  | d :: r, h => by
    unfold ixOf
    have h0 := h 0
    rw [if_neg (fun e => h0 (by rw [e]; rfl)), ixOf_none (t := r) fun j => by have := h (j + 1); simpa using this]
    rfl
theorem ixOf_some {c : Nat} : ∀ {t : Tx} {k : Nat}, t[k]? = some c → (∀ j, j < k → t[j]? ≠ some c) → ixOf c t = some k
  | [], _, h, _ => by simp at h
  | d :: r, 0, h, _ => by
    have e : d = c := by simpa using h
    unfold ixOf
    rw [if_pos e]
  | d :: r, k + 1, h, hn => by
    have h0 := hn 0 (Nat.succ_pos _)
    unfold ixOf
    rw [if_neg (fun e => h0 (by rw [e]; rfl)), ixOf_some (t := r) (k := k) (by simpa using h) fun j hj => by have := hn (j + 1) (by omega); simpa using this]
    rfl
theorem at_sign (t : Tx) (c hi i : Nat) : StrLaws.At (S t) (S [c]) hi i ↔ i + 1 ≤ hi ∧ t[i]? = some c := by
  unfold StrLaws.At
  rw [StrLaws.subAt_eq]
  have e1 : (S [c]).length = 1 := rfl
  rw [e1, S_cps, S_cps]
  have e2 : ((t.drop i).take 1 == [c]) = true ↔ t[i]? = some c := by
    rw [beq_iff_eq]
    cases h : t[i]? with
    | none =>
      have : t.drop i = [] := by rw [List.drop_eq_nil_iff]; exact List.getElem?_eq_none_iff.mp h
      rw [this]; simp
    | some d =>
      obtain ⟨hl, he⟩ := List.getElem?_eq_some_iff.mp h
      rw [List.drop_eq_getElem_cons hl, he]
      simp
  rw [e2]
theorem find_ix (t : Tx) (c : Nat) : Txt.find (S t) (S [c]) = (match ixOf c t with | some k => (k : Int) | none => -1) := by
  rcases find_whole (S t) (S [c]) with ⟨h1, h2⟩ | ⟨i, h1, h2, h3⟩
  · have e : ixOf c t = none := ixOf_none fun j hj => by
      refine h2 j ((at_sign t c _ j).mpr ⟨?_, hj⟩)
      rw [S_len]
      exact (List.getElem?_eq_some_iff.mp hj).1
    rw [h1, e]
  · obtain ⟨_, hi⟩ := (at_sign t c _ i).mp h2
    have e : ixOf c t = some i := ixOf_some hi fun j hj hjj => by
      refine h3 j hj ((at_sign t c _ j).mpr ⟨?_, hjj⟩)
      rw [S_len]
      exact (List.getElem?_eq_some_iff.mp hjj).1
    rw [h1, e]
theorem occ_within (x y : PySem.Str) (lo hi : Nat) :
    (Builtin.Str.occurrences x y lo hi 1 = [] ∧ ∀ i, lo ≤ i → i ≤ hi → ¬ StrLaws.At x y hi i) ∨
    ∃ i r, Builtin.Str.occurrences x y lo hi 1 = i :: r ∧ lo ≤ i ∧ StrLaws.At x y hi i ∧ ∀ k, lo ≤ k → k < i → ¬ StrLaws.At x y hi k := by
  rw [StrLaws.occ_eq]
  rcases StrLaws.occ_first x y hi 1 (Nat.le_refl 1) (List.range' lo (hi + 1 - lo)) lo (fun i hi' => (List.mem_range'_1.mp hi').1) with ⟨h0, hn⟩ | ⟨a, b, c, e, h0, hb, hn⟩
  · exact .inl ⟨by rw [h0], fun i h1 h2 => hn i (List.mem_range'_1.mpr ⟨h1, by omega⟩)⟩
  · have hs := StrLaws.range'_split_from e
    refine .inr ⟨b, ((forIn (List.range' lo (hi + 1 - lo)) ((#[] : Array Nat), lo) (StrLaws.occBody x y hi 1)).run.fst.toList).tail, ?_, hs.1, hb, fun k k1 k2 => hn k (hs.2 k k1 k2)⟩
    · generalize (forIn (List.range' lo (hi + 1 - lo)) ((#[] : Array Nat), lo) (StrLaws.occBody x y hi 1)).run.fst = arr at h0
      have h1 : arr.toList[0]? = some b := by simpa using h0
      cases hL : arr.toList with
      | nil => rw [hL] at h1; cases h1
      | cons d r =>
        rw [hL] at h1
        have e2 : d = b := Option.some.inj h1
        rw [e2]; rfl
/-- the newline's place within 301 signs -/
theorem findIn_nl (t : Tx) (a : Nat) (ha : a ≤ t.length) : Txt.findIn (S t) (S [10]) (a : Int) ((a : Int) + 301) = (match nlAt ((t.drop a).take 301) with | some k => ((a + k : Nat) : Int) | none => -1) := by
  unfold Txt.findIn
  have e1 : fromIndex (S t).length (a : Int) = a := by
    unfold fromIndex
    rw [if_neg (by omega)]
    omega
  have e2 : toIndexW (S t).length ((a : Int) + 301) = min (a + 301) t.length := by
    unfold toIndexW
    rw [if_neg (by omega), S_len]
    omega
  rw [e1, e2, nlAt_ix]
  have key : ∀ j, ((t.drop a).take 301)[j]? = some 10 ↔ (a + j + 1 ≤ min (a + 301) t.length ∧ t[a + j]? = some 10) := fun j => by
    rw [List.getElem?_take, List.getElem?_drop]
    constructor
    · intro h
      split at h
      · have := (List.getElem?_eq_some_iff.mp h).1
        exact ⟨by omega, h⟩
      · cases h
    · intro h
      rw [if_pos (by omega)]
      exact h.2
  rcases occ_within (S t) (S [10]) a (min (a + 301) t.length) with ⟨h0, hn⟩ | ⟨i, r, h0, h1, h2, h3⟩
  · have e : ixOf 10 ((t.drop a).take 301) = none := ixOf_none fun j hj => by
      obtain ⟨k1, k2⟩ := (key j).mp hj
      exact hn (a + j) (by omega) (by omega) ((at_sign t 10 _ _).mpr ⟨k1, k2⟩)
    rw [h0, e]
  · obtain ⟨g1, g2⟩ := (at_sign t 10 _ _).mp h2
    have ei : a + (i - a) = i := by omega
    have e : ixOf 10 ((t.drop a).take 301) = some (i - a) := ixOf_some ((key (i - a)).mpr ⟨by omega, by rw [ei]; exact g2⟩) fun j hj hjj => by
      obtain ⟨k1, k2⟩ := (key j).mp hjj
      exact h3 (a + j) (by omega) (by omega) ((at_sign t 10 _ _).mpr ⟨k1, k2⟩)
    rw [h0, e]
    simp only [ei]
theorem partition_ix (t : Tx) (c : Nat) : Txt.partition (S t) (S [c]) = (match ixOf c t with | some k => (S (t.take k), S [c], S (t.drop (k + 1))) | none => (S t, Str.empty, Str.empty)) := by
  rcases partition_whole (S t) (S [c]) with ⟨h1, h2⟩ | ⟨i, h1, h2, h3⟩
  · have e : ixOf c t = none := ixOf_none fun j hj => by
      refine h2 j ((at_sign t c _ j).mpr ⟨?_, hj⟩)
      rw [S_len]
      exact (List.getElem?_eq_some_iff.mp hj).1
    rw [h1, e]
  · obtain ⟨_, hi⟩ := (at_sign t c _ i).mp h2
    have e : ixOf c t = some i := ixOf_some hi fun j hj hjj => by
      refine h3 j hj ((at_sign t c _ j).mpr ⟨?_, hjj⟩)
      rw [S_len]
      exact (List.getElem?_eq_some_iff.mp hjj).1
    rw [h1, e]
    have e1 : Builtin.Str.strSub (S t) 0 i = S (t.take i) := TL.ext_tl (by rw [TL.tl_strSub, List.drop_zero, Nat.sub_zero]; rfl)
    have e2 : Builtin.Str.strSub (S t) (i + (S [c]).length) (S t).length = S (t.drop (i + 1)) := TL.ext_tl (by rw [TL.tl_strSub_end]; rfl)
    rw [e1, e2]
theorem startswith_S (t u : Tx) : Txt.startswith (S t) (S u) = u.isPrefixOf t := by
  unfold Txt.startswith
  rw [StrLaws.subAt_eq, S_len, S_len, S_cps, S_cps, List.drop_zero, Bool.eq_iff_iff, Bool.and_eq_true, List.isPrefixOf_iff_prefix]
  simp only [decide_eq_true_eq, beq_iff_eq]
  constructor
  · rintro ⟨_, h⟩
    have e := List.take_append_drop u.length t
    rw [h] at e
    exact ⟨t.drop u.length, e⟩
  · rintro ⟨r, rfl⟩
    exact ⟨by simp, List.take_left⟩
/-! ### slices -/
theorem take_min_len (t : Tx) (k : Nat) : t.take (min k t.length) = t.take k := by
  by_cases h : k ≤ t.length
  · rw [Nat.min_eq_left h]
  · rw [Nat.min_eq_right (by omega), List.take_length, List.take_of_length_le (by omega)]
theorem cut_to (t : Tx) (k : Nat) : cutS (S t) none (some (k : Int)) = S (t.take k) := by
  unfold cutS
  rw [HT.sIx_none, HT.sIx_nat, S_len, S_cps]
  show (⟨((t.drop 0).take (min k t.length - 0)).toArray⟩ : PySem.Str) = S (t.take k)
  rw [List.drop_zero, Nat.sub_zero, take_min_len]
  rfl
theorem cut_from (t : Tx) (k : Nat) : cutS (S t) (some (k : Int)) none = S (t.drop k) := by
  unfold cutS
  rw [HT.sIx_none, HT.sIx_nat, S_len, S_cps]
  show (⟨((t.drop (min k t.length)).take (t.length - min k t.length)).toArray⟩ : PySem.Str) = S (t.drop k)
  have e : t.drop (min k t.length) = t.drop k := by
    by_cases h : k ≤ t.length
    · rw [Nat.min_eq_left h]
    · rw [Nat.min_eq_right (by omega), List.drop_length, List.drop_eq_nil_of_le (by omega)]
  rw [e, List.take_of_length_le (by rw [List.length_drop]; omega)]
  rfl
theorem cut_mid (t : Tx) (a b : Nat) : cutS (S t) (some (a : Int)) (some (b : Int)) = S ((t.drop a).take (b - a)) := by
  unfold cutS
  rw [HT.sIx_nat, HT.sIx_nat, S_len, S_cps]
  show (⟨((t.drop (min a t.length)).take (min b t.length - min a t.length)).toArray⟩ : PySem.Str) = S ((t.drop a).take (b - a))
  by_cases h : a ≤ t.length
  · rw [Nat.min_eq_left h]
    have e : (t.drop a).take (min b t.length - a) = (t.drop a).take (b - a) := by
      rw [← take_min_len (t.drop a) (b - a), ← take_min_len (t.drop a) (min b t.length - a), List.length_drop]
      congr 1
      omega
    rw [e]; rfl
  · rw [Nat.min_eq_right (show t.length ≤ a by omega), List.drop_length, List.drop_eq_nil_of_le (by omega : t.length ≤ a)]
    simp [S]
end K6

set_option Elab.async false
set_option linter.all false
set_option maxRecDepth 100000
set_option maxHeartbeats 4000000
/-! KP2: words, names, values, numbers; the parameters of the machine. -/
namespace K6
open PySem PySem.Spec PyProof.Rows L2
/-- the code points of a written text -/
def T (s : String) : Tx := TL.tl (PySem.Str.ofString s)
theorem S_T (s : String) : S (T s) = PySem.Str.ofString s := S_tl _
theorem dec_T (t : Tx) (s : String) : decide (V.str (S t) = V.str (PySem.Str.ofString s)) = decide (t = T s) := dec_S t _
/-! ### words -/
def words (t : Tx) : List Tx := TL.spl [32] 0 [] t
theorem spl_ne (s : Nat) : ∀ (t acc : Tx), TL.spl [s] 0 acc t ≠ []
  | [], acc => by rw [TL.spl_nil]; simp
  | c :: r, acc => by
    show (if TL.pre [s] (c :: r) = true then acc :: TL.spl [s] ([s].length - 1) [] r else TL.spl [s] 0 (acc ++ [c]) r) ≠ []
    split
    · simp
    · exact spl_ne s r _
theorem joinL_cons (s : Nat) (p : Tx) {q : List Tx} (h : q ≠ []) : TL.joinL [s] (p :: q) = p ++ (s :: TL.joinL [s] q) := by
  cases q with
  | nil => exact absurd rfl h
  | cons a r => rfl
theorem join_spl (s : Nat) : ∀ (t acc : Tx), TL.joinL [s] (TL.spl [s] 0 acc t) = acc ++ t
  | [], acc => by rw [TL.spl_nil, List.append_nil]; rfl
  | c :: r, acc => by
    show TL.joinL [s] (if TL.pre [s] (c :: r) = true then acc :: TL.spl [s] ([s].length - 1) [] r else TL.spl [s] 0 (acc ++ [c]) r) = _
    by_cases h : c = s
    · subst h
      rw [if_pos (show TL.pre [c] (c :: r) = true from TL.pre_self [c] r)]
      show TL.joinL [c] (acc :: TL.spl [c] 0 [] r) = _
      rw [joinL_cons c acc (spl_ne c r []), join_spl c r []]
      rfl
    · rw [if_neg (by rw [TL.pre_of_head [] r h]; simp), join_spl s r (acc ++ [c])]
      simp
theorem join_words (t : Tx) : TL.joinL [32] (words t) = t := by
  have e := join_spl 32 t []
  rw [List.nil_append] at e
  exact e
theorem split_words (t : Tx) : Txt.split (S t) (S [32]) = (words t).map S := by
  refine TL.map_tl_inj ?_
  rw [TL.split_spl _ _ (by simp [S, TL.tl]) (TL.kind_ok (y := S [32]) (by decide +kernel)), List.map_map]
  have e : (TL.tl ∘ S) = id := by funext x; rfl
  rw [e, List.map_id]
  rfl
theorem words_len (t : Tx) : (words t).length ≤ t.length + 2 := by
  have e := congrArg List.length (split_words t)
  rw [List.length_map] at e
  have h := PyProof.Rows.split_le (S t) (S [32])
  rw [e, S_len] at h
  omega
theorem words_in (t : Tx) : ∀ {w : Tx}, w ∈ words t → w.length ≤ t.length := by
  have key : ∀ (l : List Tx) (w : Tx), w ∈ l → w.length ≤ (TL.joinL [32] l).length := by
    intro l
    induction l with
    | nil => intro w h; cases h
    | cons p q ih =>
      intro w h
      by_cases hq : q = []
      · subst hq
        rcases List.mem_cons.mp h with e | e
        · rw [e]; exact Nat.le_refl _
        · cases e
      · rw [joinL_cons 32 p hq, List.length_append, List.length_cons]
        rcases List.mem_cons.mp h with e | e
        · rw [e]; omega
        · have := ih w e
          omega
  intro w h
  have := key (words t) w h
  rw [join_words] at this
  exact this
/-! ### small forms -/
def isPlain (c : Nat) : Bool := decide (32 ≤ c) && decide (c ≤ 126) && decide (c ≠ 37)
def pathSigns : Tx := T "abcdefghijklmnopqrstuvwxyz0123456789/-."
def nameSigns : Tx := T "abcdefghijklmnopqrstuvwxyz0123456789-"
def letters : Tx := T "abcdefghijklmnopqrstuvwxyz"
def digits : Tx := T "0123456789"
def allIn (t u : Tx) : Bool := t.all fun c => decide (c ∈ u)
def isPathT (t : Tx) : Bool := decide (t.head? = some 47) && decide (t.length ≤ 60) && allIn t pathSigns
def headIn (t u : Tx) : Bool := match t with
  | [] => false
  | c :: _ => decide (c ∈ u)
def isNameT (t : Tx) : Bool := decide (1 ≤ t.length) && decide (t.length ≤ 30) && decide (t ≠ T "length") && headIn t letters && allIn t nameSigns
def stripT (t : Tx) : Tx := TL.tl (Txt.stripChars (S t) (PySem.Str.ofString " "))
def lowT (t : Tx) : Tx := TL.tl (Txt.lower (S t))
theorem strip_S (t : Tx) : Txt.stripChars (S t) (PySem.Str.ofString " ") = S (stripT t) := (S_tl _).symm
theorem low_S (t : Tx) : Txt.lower (S t) = S (lowT t) := (S_tl _).symm
theorem stripT_len (t : Tx) : (stripT t).length ≤ t.length := by
  have h := PyProof.Rows.len_stripChars (S t) (PySem.Str.ofString " ")
  rw [strip_S, S_len, S_len] at h
  exact h
theorem lowT_len (t : Tx) : (lowT t).length ≤ 3 * t.length := by
  have h := PyProof.Rows.len_lower (S t)
  rw [low_S, S_len, S_len] at h
  exact h
def isValueT (t : Tx) : Bool := decide (t.length ≤ 200) && t.all isPlain && decide (t = stripT t)
def digT (t : Tx) : Bool := decide (1 ≤ t.length) && decide (t.length ≤ 6) && allIn t digits && (decide (t.length = 1) || decide (t.head? ≠ some 48))
def numT (t : Tx) : Option Nat := if digT t = true then some (NumText.digitsVal t) else none
theorem digits_mem {c : Nat} (h : c ∈ digits) : 48 ≤ c ∧ c ≤ 57 := by
  have e : digits = [48, 49, 50, 51, 52, 53, 54, 55, 56, 57] := by decide +kernel
  rw [e] at h
  simp only [List.mem_cons, List.not_mem_nil, or_false] at h
  omega
theorem digT_int {t : Tx} (h : digT t = true) : PySem.intText? (S t) = some ((NumText.digitsVal t : Nat) : Int) := by
  unfold digT allIn at h
  simp only [Bool.and_eq_true, decide_eq_true_eq, List.all_eq_true] at h
  obtain ⟨⟨⟨h1, h2⟩, h3⟩, _⟩ := h
  have e := PySem.intText_digits (x := S t) (fun c hc => digits_mem (h3 c hc)) (by rw [S_cps]; intro z; rw [z] at h1; simp at h1) (by rw [S_len]; omega)
  rw [S_cps] at e
  exact e
theorem numT_int {t : Tx} {n : Nat} (h : numT t = some n) : PySem.intText? (S t) = some (n : Int) := by
  unfold numT at h
  split at h
  · rename_i q
    cases h
    exact digT_int q
  · cases h
theorem numT_len {t : Tx} {n : Nat} (h : numT t = some n) : t.length ≤ 6 := by
  unfold numT at h
  split at h
  · rename_i q
    unfold digT at q
    simp only [Bool.and_eq_true, decide_eq_true_eq] at q
    exact q.1.1.2
  · cases h
theorem fold_pos : ∀ (l : Tx) (a : Nat), 0 < a → 0 < l.foldl (fun acc c => acc * 10 + (c - 48)) a
  | [], _, h => h
  | c :: r, a, h => fold_pos r _ (by show 0 < a * 10 + (c - 48); omega)
theorem digT_zero {t : Tx} (h : digT t = true) : NumText.digitsVal t = 0 ↔ t = T "0" := by
  have e0 : T "0" = [48] := by decide +kernel
  rw [e0]
  unfold digT allIn at h
  simp only [Bool.and_eq_true, Bool.or_eq_true, decide_eq_true_eq, List.all_eq_true] at h
  obtain ⟨⟨⟨h1, h2⟩, h3⟩, h4⟩ := h
  constructor
  · intro hz
    cases t with
    | nil => simp at h1
    | cons c r =>
      have hc := digits_mem (h3 c (by simp))
      rcases h4 with h4 | h4
      · have er : r = [] := by
          cases r with
          | nil => rfl
          | cons d q => simp at h4
        subst er
        have : NumText.digitsVal [c] = 0 * 10 + (c - 48) := rfl
        rw [this] at hz
        have : c = 48 := by omega
        rw [this]
      · exfalso
        have hc48 : c ≠ 48 := fun z => h4 (by rw [z]; rfl)
        have : NumText.digitsVal (c :: r) = r.foldl (fun acc c => acc * 10 + (c - 48)) (0 * 10 + (c - 48)) := rfl
        rw [this] at hz
        have := fold_pos r (0 * 10 + (c - 48)) (by omega)
        omega
  · intro e
    subst e
    rfl
theorem numT_zero {t : Tx} {n : Nat} (h : numT t = some n) : n = 0 ↔ t = T "0" := by
  unfold numT at h
  split at h
  · rename_i q
    cases h
    exact digT_zero q
  · cases h
/-! ### start lines, field lines -/
def methodsT : List Tx := [T "get", T "put", T "delete"]
def statusesT : List Tx := [T "ok", T "part", T "same", T "done", T "missing", T "failed", T "norange", T "unkept", T "error"]
def startOkT (answers : Bool) (t : Tx) : Bool :=
  match answers, words t with
  | false, [a, m, p] => decide (a = T "ask") && decide (m ∈ methodsT) && isPathT p
  | true, [a, s] => decide (a = T "answer") && decide (s ∈ statusesT)
  | _, _ => false
def mayT (t : Tx) : Bool := if (T "ask ").isPrefixOf t = true then (T "ask put ").isPrefixOf t else decide (t ≠ T "answer same") && decide (t ≠ T "answer done")
def chunksT : Tx := T "chunks"
def frameRes (may trailer : Bool) (frame : Option Tx) (v : Tx) : LR :=
  if trailer = true ∨ frame ≠ none ∨ (v ≠ chunksT ∧ numT v = none) then .bad .length
  else if may = false ∧ v ≠ T "0" then .bad .length
  else if 100000 < (numT v).getD 0 then .bad .long
  else .frame v
def fieldOf (l : Tx) : Option Fld :=
  match ixOf 58 l with
  | none => none
  | some k => if lowT (l.take k) ≠ T "length" ∧ ¬ (isNameT (lowT (l.take k)) = true ∧ isValueT (stripT (l.drop (k + 1))) = true) then none else some (lowT (l.take k), stripT (l.drop (k + 1)))
def lineResT (may trailer : Bool) (frame : Option Tx) (n : Nat) (l : Tx) : LR :=
  match fieldOf l with
  | none => .bad .field
  | some f => if f.1 = T "length" then frameRes may trailer frame f.2 else if 40 ≤ n then .bad .many else .field f.1 f.2
def Par (answers : Bool) : Pm where
  plain := isPlain
  startOk := startOkT answers
  may := mayT
  answers := answers
  chunksV := chunksT
  lineRes := lineResT
  num := numT
  nlNotPlain := by decide
  trailerFrame := fun m f g n l => by
    unfold lineResT
    split
    · rfl
    · split
      · unfold frameRes
        rw [if_pos (.inl rfl), if_pos (.inl rfl)]
      · rfl
  frameOk := fun m t f n l v h => by
    unfold lineResT at h
    cases hfo : fieldOf l with
    | none => rw [hfo] at h; cases h
    | some fl =>
      rw [hfo] at h
      dsimp only at h
      split at h
      · unfold frameRes at h
        split at h
        · cases h
        · rename_i h1
          split at h
          · cases h
          · split at h
            · cases h
            · rename_i h3
              injection h with h
              subst h
              refine ⟨?_, ?_, ?_⟩
              · cases t with
                | false => rfl
                | true => exact absurd (.inl rfl) h1
              · cases f with
                | none => rfl
                | some _ => exact absurd (.inr (.inl (by simp))) h1
              · by_cases hc : fl.2 = chunksT
                · exact .inl hc
                · refine .inr ?_
                  cases q : numT fl.2 with
                  | none => exact absurd (.inr (.inr ⟨hc, q⟩)) h1
                  | some k =>
                    rw [q] at h3
                    exact ⟨k, rfl, by simpa using h3⟩
      · split at h <;> cases h
end K6

set_option Elab.async false
set_option linter.all false
set_option maxRecDepth 100000
set_option maxHeartbeats 4000000
/-! KW1: the defs by places, their scopes, the facts that the walks lean on. -/
namespace K6
open PySem PySem.Spec PyProof.Rows L2
abbrev s_InvalidValue___init__ : Stmt := inClass (top 3) 0
abbrev s_InvalidMessage___init__ : Stmt := inClass (top 4) 0
abbrev s_is_plain_sign : Stmt := top 18
theorem sc_is_plain_sign : FnScope ["sign"] ["sign"] (defScope s_is_plain_sign) := ⟨rfl, rfl, rfl, by decide +kernel, rfl, by decide +kernel, by decide +kernel⟩
abbrev s_is_plain : Stmt := top 19
theorem sc_is_plain : FnScope ["text", "sign"] ["text"] (defScope s_is_plain) := ⟨rfl, rfl, rfl, by decide +kernel, rfl, by decide +kernel, by decide +kernel⟩
abbrev s_consists_of : Stmt := top 20
theorem sc_consists_of : FnScope ["text", "signs", "sign"] ["text", "signs"] (defScope s_consists_of) := ⟨rfl, rfl, rfl, by decide +kernel, rfl, by decide +kernel, by decide +kernel⟩
abbrev s_is_path : Stmt := top 21
theorem sc_is_path : FnScope ["text"] ["text"] (defScope s_is_path) := ⟨rfl, rfl, rfl, by decide +kernel, rfl, by decide +kernel, by decide +kernel⟩
abbrev s_is_field_name : Stmt := top 22
theorem sc_is_field_name : FnScope ["text"] ["text"] (defScope s_is_field_name) := ⟨rfl, rfl, rfl, by decide +kernel, rfl, by decide +kernel, by decide +kernel⟩
abbrev s_is_value : Stmt := top 23
theorem sc_is_value : FnScope ["text"] ["text"] (defScope s_is_value) := ⟨rfl, rfl, rfl, by decide +kernel, rfl, by decide +kernel, by decide +kernel⟩
abbrev s_read_number : Stmt := top 24
theorem sc_read_number : FnScope ["text"] ["text"] (defScope s_read_number) := ⟨rfl, rfl, rfl, by decide +kernel, rfl, by decide +kernel, by decide +kernel⟩
abbrev s_is_body_text : Stmt := top 26
theorem sc_is_body_text : FnScope ["text"] ["text"] (defScope s_is_body_text) := ⟨rfl, rfl, rfl, by decide +kernel, rfl, by decide +kernel, by decide +kernel⟩
abbrev s_Message___init__ : Stmt := inClass (top 27) 2
theorem sc_Message___init__ : FnScope ["self", "fields", "body", "name", "value"] ["self", "fields", "body"] (defScope s_Message___init__) := ⟨rfl, rfl, rfl, by decide +kernel, rfl, by decide +kernel, by decide +kernel⟩
abbrev s_Message_start_line : Stmt := inClass (top 27) 3
theorem sc_Message_start_line : FnScope ["self"] ["self"] (defScope s_Message_start_line) := ⟨rfl, rfl, rfl, by decide +kernel, rfl, by decide +kernel, by decide +kernel⟩
abbrev s_Message_body_allowed : Stmt := inClass (top 27) 4
theorem sc_Message_body_allowed : FnScope ["self"] ["self"] (defScope s_Message_body_allowed) := ⟨rfl, rfl, rfl, by decide +kernel, rfl, by decide +kernel, by decide +kernel⟩
abbrev s_Message_start : Stmt := inClass (top 27) 6
theorem sc_Message_start : FnScope ["self"] ["self"] (defScope s_Message_start) := ⟨rfl, rfl, rfl, by decide +kernel, rfl, by decide +kernel, by decide +kernel⟩
abbrev s_Message_may_have_body : Stmt := inClass (top 27) 7
theorem sc_Message_may_have_body : FnScope ["self"] ["self"] (defScope s_Message_may_have_body) := ⟨rfl, rfl, rfl, by decide +kernel, rfl, by decide +kernel, by decide +kernel⟩
abbrev s_Request___init__ : Stmt := inClass (top 28) 1
abbrev s_Request_start_line : Stmt := inClass (top 28) 3
theorem sc_Request_start_line : FnScope ["self"] ["self"] (defScope s_Request_start_line) := ⟨rfl, rfl, rfl, by decide +kernel, rfl, by decide +kernel, by decide +kernel⟩
abbrev s_Request_body_allowed : Stmt := inClass (top 28) 4
theorem sc_Request_body_allowed : FnScope ["self"] ["self"] (defScope s_Request_body_allowed) := ⟨rfl, rfl, rfl, by decide +kernel, rfl, by decide +kernel, by decide +kernel⟩
abbrev s_Request_remade : Stmt := inClass (top 28) 5
theorem sc_Request_remade : FnScope ["self", "fields", "body"] ["self", "fields", "body"] (defScope s_Request_remade) := ⟨rfl, rfl, rfl, by decide +kernel, rfl, by decide +kernel, by decide +kernel⟩
abbrev s_Response___init__ : Stmt := inClass (top 29) 1
abbrev s_Response_start_line : Stmt := inClass (top 29) 2
theorem sc_Response_start_line : FnScope ["self"] ["self"] (defScope s_Response_start_line) := ⟨rfl, rfl, rfl, by decide +kernel, rfl, by decide +kernel, by decide +kernel⟩
abbrev s_Response_body_allowed : Stmt := inClass (top 29) 3
theorem sc_Response_body_allowed : FnScope ["self"] ["self"] (defScope s_Response_body_allowed) := ⟨rfl, rfl, rfl, by decide +kernel, rfl, by decide +kernel, by decide +kernel⟩
abbrev s_Response_remade : Stmt := inClass (top 29) 4
theorem sc_Response_remade : FnScope ["self", "fields", "body"] ["self", "fields", "body"] (defScope s_Response_remade) := ⟨rfl, rfl, rfl, by decide +kernel, rfl, by decide +kernel, by decide +kernel⟩
abbrev s_parse_start : Stmt := top 34
theorem sc_parse_start : FnScope ["side", "text", "words"] ["side", "text"] (defScope s_parse_start) := ⟨rfl, rfl, rfl, by decide +kernel, rfl, by decide +kernel, by decide +kernel⟩
abbrev s_empty_message : Stmt := top 35
theorem sc_empty_message : FnScope ["side", "words"] ["side", "words"] (defScope s_empty_message) := ⟨rfl, rfl, rfl, by decide +kernel, rfl, by decide +kernel, by decide +kernel⟩
abbrev s_parse_field : Stmt := top 36
theorem sc_parse_field : FnScope ["text", "name", "worth", "before", "colon", "after"] ["text"] (defScope s_parse_field) := ⟨rfl, rfl, rfl, by decide +kernel, rfl, by decide +kernel, by decide +kernel⟩
abbrev s_Draft___init__ : Stmt := inClass (top 38) 0
theorem sc_Draft___init__ : FnScope ["self", "blank"] ["self", "blank"] (defScope s_Draft___init__) := ⟨rfl, rfl, rfl, by decide +kernel, rfl, by decide +kernel, by decide +kernel⟩
abbrev s_Draft_finished_message : Stmt := inClass (top 38) 1
theorem sc_Draft_finished_message : FnScope ["self"] ["self"] (defScope s_Draft_finished_message) := ⟨rfl, rfl, rfl, by decide +kernel, rfl, by decide +kernel, by decide +kernel⟩
abbrev s_Reader___init__ : Stmt := inClass (top 39) 0
theorem sc_Reader___init__ : FnScope ["self", "side"] ["self", "side"] (defScope s_Reader___init__) := ⟨rfl, rfl, rfl, by decide +kernel, rfl, by decide +kernel, by decide +kernel⟩
abbrev s_Reader_stage : Stmt := inClass (top 39) 1
theorem sc_Reader_stage : FnScope ["self"] ["self"] (defScope s_Reader_stage) := ⟨rfl, rfl, rfl, by decide +kernel, rfl, by decide +kernel, by decide +kernel⟩
abbrev s_Reader_fault : Stmt := inClass (top 39) 2
theorem sc_Reader_fault : FnScope ["self"] ["self"] (defScope s_Reader_fault) := ⟨rfl, rfl, rfl, by decide +kernel, rfl, by decide +kernel, by decide +kernel⟩
abbrev s_Reader_completed : Stmt := inClass (top 39) 3
theorem sc_Reader_completed : FnScope ["self"] ["self"] (defScope s_Reader_completed) := ⟨rfl, rfl, rfl, by decide +kernel, rfl, by decide +kernel, by decide +kernel⟩
abbrev s_Reader_feed : Stmt := inClass (top 39) 4
theorem sc_Reader_feed : FnScope ["self", "piece", "done", "sign", "message"] ["self", "piece"] (defScope s_Reader_feed) := ⟨rfl, rfl, rfl, by decide +kernel, rfl, by decide +kernel, by decide +kernel⟩
abbrev s_Reader_finish : Stmt := inClass (top 39) 5
theorem sc_Reader_finish : FnScope ["self", "message"] ["self"] (defScope s_Reader_finish) := ⟨rfl, rfl, rfl, by decide +kernel, rfl, by decide +kernel, by decide +kernel⟩
abbrev s_Reader_break_off : Stmt := inClass (top 39) 6
theorem sc_Reader_break_off : FnScope ["self", "kind", "index"] ["self", "kind", "index"] (defScope s_Reader_break_off) := ⟨rfl, rfl, rfl, by decide +kernel, rfl, by decide +kernel, by decide +kernel⟩
abbrev s_Reader_read_sign : Stmt := inClass (top 39) 7
theorem sc_Reader_read_sign : FnScope ["self", "sign", "message"] ["self", "sign"] (defScope s_Reader_read_sign) := ⟨rfl, rfl, rfl, by decide +kernel, rfl, by decide +kernel, by decide +kernel⟩
abbrev s_Reader_read_line : Stmt := inClass (top 39) 8
theorem sc_Reader_read_line : FnScope ["self", "text", "first"] ["self"] (defScope s_Reader_read_line) := ⟨rfl, rfl, rfl, by decide +kernel, rfl, by decide +kernel, by decide +kernel⟩
abbrev s_Reader_read_start_line : Stmt := inClass (top 39) 9
theorem sc_Reader_read_start_line : FnScope ["self", "text", "first", "words"] ["self", "text", "first"] (defScope s_Reader_read_start_line) := ⟨rfl, rfl, rfl, by decide +kernel, rfl, by decide +kernel, by decide +kernel⟩
abbrev s_Reader_read_field_line : Stmt := inClass (top 39) 10
theorem sc_Reader_read_field_line : FnScope ["self", "text", "first", "field"] ["self", "text", "first"] (defScope s_Reader_read_field_line) := ⟨rfl, rfl, rfl, by decide +kernel, rfl, by decide +kernel, by decide +kernel⟩
abbrev s_Reader_read_framing_line : Stmt := inClass (top 39) 11
theorem sc_Reader_read_framing_line : FnScope ["self", "text", "first", "number"] ["self", "text", "first"] (defScope s_Reader_read_framing_line) := ⟨rfl, rfl, rfl, by decide +kernel, rfl, by decide +kernel, by decide +kernel⟩
abbrev s_Reader_begin_body : Stmt := inClass (top 39) 12
theorem sc_Reader_begin_body : FnScope ["self", "draft"] ["self"] (defScope s_Reader_begin_body) := ⟨rfl, rfl, rfl, by decide +kernel, rfl, by decide +kernel, by decide +kernel⟩
abbrev s_Reader_read_body_sign : Stmt := inClass (top 39) 13
theorem sc_Reader_read_body_sign : FnScope ["self", "sign", "draft"] ["self", "sign"] (defScope s_Reader_read_body_sign) := ⟨rfl, rfl, rfl, by decide +kernel, rfl, by decide +kernel, by decide +kernel⟩
abbrev s_Reader_read_chunk_end : Stmt := inClass (top 39) 14
theorem sc_Reader_read_chunk_end : FnScope ["self", "sign"] ["self", "sign"] (defScope s_Reader_read_chunk_end) := ⟨rfl, rfl, rfl, by decide +kernel, rfl, by decide +kernel, by decide +kernel⟩
abbrev s_Reader_read_size_line : Stmt := inClass (top 39) 15
theorem sc_Reader_read_size_line : FnScope ["self", "text", "first", "number"] ["self", "text", "first"] (defScope s_Reader_read_size_line) := ⟨rfl, rfl, rfl, by decide +kernel, rfl, by decide +kernel, by decide +kernel⟩
abbrev s_Reader_complete_message : Stmt := inClass (top 39) 16
theorem sc_Reader_complete_message : FnScope ["self", "message"] ["self"] (defScope s_Reader_complete_message) := ⟨rfl, rfl, rfl, by decide +kernel, rfl, by decide +kernel, by decide +kernel⟩
abbrev s__law_bag : Stmt := top 41
theorem sc__law_bag : FnScope ["_law_script", "_law_k", "_law_cell"] ["_law_script", "_law_k"] (defScope s__law_bag) := ⟨rfl, rfl, rfl, by decide +kernel, rfl, by decide +kernel, by decide +kernel⟩
abbrev s__law_draw : Stmt := top 42
theorem sc__law_draw : FnScope ["_law_bag_here", "_law_size", "_law_one_here", "_law_two", "_law_three", "_law_digit"] ["_law_bag_here", "_law_size"] (defScope s__law_draw) := ⟨rfl, rfl, rfl, by decide +kernel, rfl, by decide +kernel, by decide +kernel⟩
abbrev s__law_pick : Stmt := top 43
theorem sc__law_pick : FnScope ["_law_bag_here", "_law_things"] ["_law_bag_here", "_law_things"] (defScope s__law_pick) := ⟨rfl, rfl, rfl, by decide +kernel, rfl, by decide +kernel, by decide +kernel⟩
abbrev s__law_most : Stmt := top 44
theorem sc__law_most : FnScope ["_law_bag_here", "_law_small", "_law_large"] ["_law_bag_here", "_law_small", "_law_large"] (defScope s__law_most) := ⟨rfl, rfl, rfl, by decide +kernel, rfl, by decide +kernel, by decide +kernel⟩
abbrev s__law_word : Stmt := top 45
theorem sc__law_word : FnScope ["_law_bag_here", "_law_signs_here", "_law_least", "_law_most_here", "_law_size", "_law_k"] ["_law_bag_here", "_law_signs_here", "_law_least", "_law_most_here"] (defScope s__law_word) := ⟨rfl, rfl, rfl, by decide +kernel, rfl, by decide +kernel, by decide +kernel⟩
abbrev s__law_letters : Stmt := top 46
theorem sc__law_letters : FnScope [] [] (defScope s__law_letters) := ⟨rfl, rfl, rfl, by decide +kernel, rfl, by decide +kernel, by decide +kernel⟩
abbrev s__law_signs : Stmt := top 47
theorem sc__law_signs : FnScope ["_law_low"] [] (defScope s__law_signs) := ⟨rfl, rfl, rfl, by decide +kernel, rfl, by decide +kernel, by decide +kernel⟩
abbrev s__law_all_in : Stmt := top 48
theorem sc__law_all_in : FnScope ["_law_text", "_law_signs_here", "_law_sign"] ["_law_text", "_law_signs_here"] (defScope s__law_all_in) := ⟨rfl, rfl, rfl, by decide +kernel, rfl, by decide +kernel, by decide +kernel⟩
abbrev s__law_is_path : Stmt := top 49
theorem sc__law_is_path : FnScope ["_law_text", "_law_signs_here"] ["_law_text"] (defScope s__law_is_path) := ⟨rfl, rfl, rfl, by decide +kernel, rfl, by decide +kernel, by decide +kernel⟩
abbrev s__law_is_name : Stmt := top 50
theorem sc__law_is_name : FnScope ["_law_text"] ["_law_text"] (defScope s__law_is_name) := ⟨rfl, rfl, rfl, by decide +kernel, rfl, by decide +kernel, by decide +kernel⟩
abbrev s__law_is_value : Stmt := top 51
theorem sc__law_is_value : FnScope ["_law_text"] ["_law_text"] (defScope s__law_is_value) := ⟨rfl, rfl, rfl, by decide +kernel, rfl, by decide +kernel, by decide +kernel⟩
abbrev s__law_digits : Stmt := top 52
theorem sc__law_digits : FnScope ["_law_text"] ["_law_text"] (defScope s__law_digits) := ⟨rfl, rfl, rfl, by decide +kernel, rfl, by decide +kernel, by decide +kernel⟩
abbrev s__law_statuses : Stmt := top 53
theorem sc__law_statuses : FnScope [] [] (defScope s__law_statuses) := ⟨rfl, rfl, rfl, by decide +kernel, rfl, by decide +kernel, by decide +kernel⟩
abbrev s__law_may : Stmt := top 54
theorem sc__law_may : FnScope ["_law_start"] ["_law_start"] (defScope s__law_may) := ⟨rfl, rfl, rfl, by decide +kernel, rfl, by decide +kernel, by decide +kernel⟩
abbrev s__law_name : Stmt := top 55
theorem sc__law_name : FnScope ["_law_bag_here", "_law_tail", "_law_name_here"] ["_law_bag_here"] (defScope s__law_name) := ⟨rfl, rfl, rfl, by decide +kernel, rfl, by decide +kernel, by decide +kernel⟩
abbrev s__law_value : Stmt := top 56
theorem sc__law_value : FnScope ["_law_bag_here"] ["_law_bag_here"] (defScope s__law_value) := ⟨rfl, rfl, rfl, by decide +kernel, rfl, by decide +kernel, by decide +kernel⟩
abbrev s__law_names : Stmt := top 57
theorem sc__law_names : FnScope ["_law_bag_here", "_law_k"] ["_law_bag_here"] (defScope s__law_names) := ⟨rfl, rfl, rfl, by decide +kernel, rfl, by decide +kernel, by decide +kernel⟩
abbrev s__law_body : Stmt := top 58
theorem sc__law_body : FnScope ["_law_bag_here", "_law_way"] ["_law_bag_here"] (defScope s__law_body) := ⟨rfl, rfl, rfl, by decide +kernel, rfl, by decide +kernel, by decide +kernel⟩
abbrev s__law_row : Stmt := top 59
theorem sc__law_row : FnScope ["_law_bag_here", "_law_side", "_law_names_here", "_law_count", "_law_fields", "_law_body_here", "_law_path", "_law_start", "_law_k"] ["_law_bag_here", "_law_side", "_law_names_here"] (defScope s__law_row) := ⟨rfl, rfl, rfl, by decide +kernel, rfl, by decide +kernel, by decide +kernel⟩
abbrev s__law_same : Stmt := top 60
theorem sc__law_same : FnScope ["_law_told", "_law_side", "_law_row_here", "_law_words"] ["_law_told", "_law_side", "_law_row_here"] (defScope s__law_same) := ⟨rfl, rfl, rfl, by decide +kernel, rfl, by decide +kernel, by decide +kernel⟩
abbrev s__law_all_same : Stmt := top 61
theorem sc__law_all_same : FnScope ["_law_told", "_law_side", "_law_rows", "_law_k"] ["_law_told", "_law_side", "_law_rows"] (defScope s__law_all_same) := ⟨rfl, rfl, rfl, by decide +kernel, rfl, by decide +kernel, by decide +kernel⟩
abbrev s__law_loose_line : Stmt := top 62
theorem sc__law_loose_line : FnScope ["_law_bag_here", "_law_name_here", "_law_value_here", "_law_shown", "_law_sign"] ["_law_bag_here", "_law_name_here", "_law_value_here"] (defScope s__law_loose_line) := ⟨rfl, rfl, rfl, by decide +kernel, rfl, by decide +kernel, by decide +kernel⟩
abbrev s__law_loose_chunks : Stmt := top 63
theorem sc__law_loose_chunks : FnScope ["_law_bag_here", "_law_body_here", "_law_text", "_law_k", "_law_size", "_law_piece"] ["_law_bag_here", "_law_body_here"] (defScope s__law_loose_chunks) := ⟨rfl, rfl, rfl, by decide +kernel, rfl, by decide +kernel, by decide +kernel⟩
abbrev s__law_loose : Stmt := top 64
theorem sc__law_loose : FnScope ["_law_bag_here", "_law_row_here", "_law_last", "_law_start", "_law_ways", "_law_way", "_law_lines_here", "_law_tail", "_law_text", "_law_field"] ["_law_bag_here", "_law_row_here", "_law_last"] (defScope s__law_loose) := ⟨rfl, rfl, rfl, by decide +kernel, rfl, by decide +kernel, by decide +kernel⟩
abbrev s__law_stream : Stmt := top 65
theorem sc__law_stream : FnScope ["_law_script", "_law_bag_here", "_law_side", "_law_names_here", "_law_count", "_law_rows", "_law_text", "_law_k", "_law_one_here"] ["_law_script", "_law_bag_here", "_law_side"] (defScope s__law_stream) := ⟨rfl, rfl, rfl, by decide +kernel, rfl, by decide +kernel, by decide +kernel⟩
abbrev s__law_bad_sign : Stmt := top 66
theorem sc__law_bad_sign : FnScope ["_law_text", "_law_signs_here", "_law_k"] ["_law_text"] (defScope s__law_bad_sign) := ⟨rfl, rfl, rfl, by decide +kernel, rfl, by decide +kernel, by decide +kernel⟩
abbrev s__law_line : Stmt := top 67
theorem sc__law_line : FnScope ["_law_text", "_law_at", "_law_end"] ["_law_text", "_law_at"] (defScope s__law_line) := ⟨rfl, rfl, rfl, by decide +kernel, rfl, by decide +kernel, by decide +kernel⟩
abbrev s__law_starts : Stmt := top 68
theorem sc__law_starts : FnScope ["_law_side", "_law_line_here", "_law_words"] ["_law_side", "_law_line_here"] (defScope s__law_starts) := ⟨rfl, rfl, rfl, by decide +kernel, rfl, by decide +kernel, by decide +kernel⟩
abbrev s__law_line_fault : Stmt := top 69
theorem sc__law_line_fault : FnScope ["_law_line_here", "_law_start", "_law_many", "_law_frame", "_law_trailer", "_law_mark", "_law_name_here", "_law_value_here"] ["_law_line_here", "_law_start", "_law_many", "_law_frame", "_law_trailer"] (defScope s__law_line_fault) := ⟨rfl, rfl, rfl, by decide +kernel, rfl, by decide +kernel, by decide +kernel⟩
abbrev s__law_head : Stmt := top 70
theorem sc__law_head : FnScope ["_law_text", "_law_at", "_law_start", "_law_fields", "_law_trailer", "_law_frame", "_law_turn", "_law_line_here", "_law_kind", "_law_mark", "_law_value_here"] ["_law_text", "_law_at", "_law_start", "_law_fields", "_law_trailer"] (defScope s__law_head) := ⟨rfl, rfl, rfl, by decide +kernel, rfl, by decide +kernel, by decide +kernel⟩
abbrev s__law_chunked : Stmt := top 71
theorem sc__law_chunked : FnScope ["_law_text", "_law_at", "_law_body_here", "_law_turn", "_law_line_here", "_law_size"] ["_law_text", "_law_at"] (defScope s__law_chunked) := ⟨rfl, rfl, rfl, by decide +kernel, rfl, by decide +kernel, by decide +kernel⟩
abbrev s__law_body_read : Stmt := top 72
theorem sc__law_body_read : FnScope ["_law_side", "_law_text", "_law_at", "_law_start", "_law_fields", "_law_frame", "_law_size", "_law_told", "_law_foot"] ["_law_side", "_law_text", "_law_at", "_law_start", "_law_fields", "_law_frame"] (defScope s__law_body_read) := ⟨rfl, rfl, rfl, by decide +kernel, rfl, by decide +kernel, by decide +kernel⟩
abbrev s__law_one : Stmt := top 73
theorem sc__law_one : FnScope ["_law_side", "_law_text", "_law_at", "_law_line_here", "_law_turn", "_law_fields", "_law_head_here"] ["_law_side", "_law_text", "_law_at"] (defScope s__law_one) := ⟨rfl, rfl, rfl, by decide +kernel, rfl, by decide +kernel, by decide +kernel⟩
abbrev s__law_reading : Stmt := top 74
theorem sc__law_reading : FnScope ["_law_side", "_law_text", "_law_bad", "_law_whole", "_law_rows", "_law_one_here", "_law_turn"] ["_law_side", "_law_text"] (defScope s__law_reading) := ⟨rfl, rfl, rfl, by decide +kernel, rfl, by decide +kernel, by decide +kernel⟩
abbrev s__law_ended : Stmt := top 75
theorem sc__law_ended : FnScope ["_law_side", "_law_text", "_law_told"] ["_law_side", "_law_text"] (defScope s__law_ended) := ⟨rfl, rfl, rfl, by decide +kernel, rfl, by decide +kernel, by decide +kernel⟩
abbrev s__law_lines : Stmt := top 76
theorem sc__law_lines : FnScope ["_law_lines_here"] [] (defScope s__law_lines) := ⟨rfl, rfl, rfl, by decide +kernel, rfl, by decide +kernel, by decide +kernel⟩
abbrev s__law_spoilt : Stmt := top 77
theorem sc__law_spoilt : FnScope ["_law_bag_here", "_law_text", "_law_way", "_law_starts_here", "_law_at", "_law_end", "_law_place", "_law_sign", "_law_k"] ["_law_bag_here", "_law_text"] (defScope s__law_spoilt) := ⟨rfl, rfl, rfl, by decide +kernel, rfl, by decide +kernel, by decide +kernel⟩
abbrev s__law_pieces : Stmt := top 78
theorem sc__law_pieces : FnScope ["_law_bag_here", "_law_text", "_law_way", "_law_sizes", "_law_pieces_here", "_law_size", "_law_k"] ["_law_bag_here", "_law_text"] (defScope s__law_pieces) := ⟨rfl, rfl, rfl, by decide +kernel, rfl, by decide +kernel, by decide +kernel⟩
abbrev s__law_stands : Stmt := top 79
theorem sc__law_stands : FnScope ["_law_reader", "_law_stage", "_law_fault", "_law_many", "_law_told"] ["_law_reader", "_law_stage", "_law_fault", "_law_many"] (defScope s__law_stands) := ⟨rfl, rfl, rfl, by decide +kernel, rfl, by decide +kernel, by decide +kernel⟩
abbrev s__law_fed : Stmt := top 80
theorem sc__law_fed : FnScope ["_law_reader", "_law_side", "_law_before", "_law_piece", "_law_known", "_law_due", "_law_told"] ["_law_reader", "_law_side", "_law_before", "_law_piece"] (defScope s__law_fed) := ⟨rfl, rfl, rfl, by decide +kernel, rfl, by decide +kernel, by decide +kernel⟩
abbrev s__law_feed_refuses : Stmt := top 81
theorem sc__law_feed_refuses : FnScope ["_law_reader", "_law_piece", "error"] ["_law_reader", "_law_piece"] (defScope s__law_feed_refuses) := ⟨rfl, rfl, rfl, by decide +kernel, rfl, by decide +kernel, by decide +kernel⟩
abbrev s__law_finish_refuses : Stmt := top 82
theorem sc__law_finish_refuses : FnScope ["_law_reader", "error"] ["_law_reader"] (defScope s__law_finish_refuses) := ⟨rfl, rfl, rfl, by decide +kernel, rfl, by decide +kernel, by decide +kernel⟩
abbrev s__law_finished : Stmt := top 83
theorem sc__law_finished : FnScope ["_law_reader", "_law_side", "_law_text", "_law_due", "_law_told", "_law_many", "_law_piece"] ["_law_reader", "_law_side", "_law_text"] (defScope s__law_finished) := ⟨rfl, rfl, rfl, by decide +kernel, rfl, by decide +kernel, by decide +kernel⟩
abbrev s__law_side_refused : Stmt := top 84
theorem sc__law_side_refused : FnScope ["_law_side", "error"] ["_law_side"] (defScope s__law_side_refused) := ⟨rfl, rfl, rfl, by decide +kernel, rfl, by decide +kernel, by decide +kernel⟩
abbrev s_law : Stmt := top 85
theorem sc_law : FnScope ["_law_script", "_law_bag_here", "_law_side", "_law_text", "_law_k", "_law_readers", "_law_cuttings", "_law_fed_here", "_law_one_here"] ["_law_script"] (defScope s_law) := ⟨rfl, rfl, rfl, by decide +kernel, rfl, by decide +kernel, by decide +kernel⟩
/-- a global's value -/
def GV (mg : PySem.Str → Option Value) (x : PySem.Str) (v : V) : Prop := ∃ u, mg x = some u ∧ RelV v u
theorem pe_gv {X : Cx} {x : PySem.Str} {v : V} {pos : Pos} (G : GV X.mg x v) (hg : Gl X x) (hd : (x == ("__debug__" : PySem.Str)) = false := by decide) : PE X (.Name x pos) (tC v) := by
  obtain ⟨u, h1, h2⟩ := G
  exact pe_glob hg h1 h2 hd
abbrev str (s : String) : V := .str (PySem.Str.ofString s)
/-- C.f, C the class that the module's name cn stands for, is the constant v -/
def CCon (K : PySem.W.Frag) (mg : PySem.Str → Option Value) (cn f : PySem.Str) (v : V) : Prop := ∃ C mc u, mg cn = some (.ref C) ∧ ClX.CRead K C mc ∧ ClX.CVal K C mc f v u
theorem pe_cc {X : Cx} {cn f : PySem.Str} {v : V} {p pos : Pos} (G : CCon X.K X.mg cn f v) (hg : Gl X cn) (hd : (cn == ("__debug__" : PySem.Str)) = false := by decide)
    (hb : attributeBase (.Name cn p) f X.env (eval (.Name cn p) X.env) = eval (.Name cn p) X.env := by rfl) : PE X (.Attribute (.Name cn p) f pos) (tC v) := by
  obtain ⟨C, mc, u, h1, h2, h3⟩ := G
  have h := ClX.pe_cval (pos := pos) (f := f) (pe_glob (X := X) (pos := p) (v := .ref C) hg h1 rfl hd) hb
  exact ⟨fun pins s σ H Q I q => h.run pins s σ H Q I ⟨C, mc, v, u, rfl, h2, h3, q⟩⟩
def sV (t : Tx) : V := .str (S t)
structure Txt (K : PySem.W.Frag) (mg : PySem.Str → Option Value) : Prop where
  is_plain_sign : GFun K mg "is_plain_sign" s_is_plain_sign
  is_plain : GFun K mg "is_plain" s_is_plain
  consists_of : GFun K mg "consists_of" s_consists_of
  is_path : GFun K mg "is_path" s_is_path
  is_field_name : GFun K mg "is_field_name" s_is_field_name
  is_value : GFun K mg "is_value" s_is_value
  read_number : GFun K mg "read_number" s_read_number
  is_body_text : GFun K mg "is_body_text" s_is_body_text
  parse_start : GFun K mg "parse_start" s_parse_start
  empty_message : GFun K mg "empty_message" s_empty_message
  parse_field : GFun K mg "parse_field" s_parse_field
  _law_bag : GFun K mg "_law_bag" s__law_bag
  _law_draw : GFun K mg "_law_draw" s__law_draw
  _law_pick : GFun K mg "_law_pick" s__law_pick
  _law_most : GFun K mg "_law_most" s__law_most
  _law_word : GFun K mg "_law_word" s__law_word
  _law_letters : GFun K mg "_law_letters" s__law_letters
  _law_signs : GFun K mg "_law_signs" s__law_signs
  _law_all_in : GFun K mg "_law_all_in" s__law_all_in
  _law_is_path : GFun K mg "_law_is_path" s__law_is_path
  _law_is_name : GFun K mg "_law_is_name" s__law_is_name
  _law_is_value : GFun K mg "_law_is_value" s__law_is_value
  _law_digits : GFun K mg "_law_digits" s__law_digits
  _law_statuses : GFun K mg "_law_statuses" s__law_statuses
  _law_may : GFun K mg "_law_may" s__law_may
  _law_name : GFun K mg "_law_name" s__law_name
  _law_value : GFun K mg "_law_value" s__law_value
  _law_names : GFun K mg "_law_names" s__law_names
  _law_body : GFun K mg "_law_body" s__law_body
  _law_row : GFun K mg "_law_row" s__law_row
  _law_same : GFun K mg "_law_same" s__law_same
  _law_all_same : GFun K mg "_law_all_same" s__law_all_same
  _law_loose_line : GFun K mg "_law_loose_line" s__law_loose_line
  _law_loose_chunks : GFun K mg "_law_loose_chunks" s__law_loose_chunks
  _law_loose : GFun K mg "_law_loose" s__law_loose
  _law_stream : GFun K mg "_law_stream" s__law_stream
  _law_bad_sign : GFun K mg "_law_bad_sign" s__law_bad_sign
  _law_line : GFun K mg "_law_line" s__law_line
  _law_starts : GFun K mg "_law_starts" s__law_starts
  _law_line_fault : GFun K mg "_law_line_fault" s__law_line_fault
  _law_head : GFun K mg "_law_head" s__law_head
  _law_chunked : GFun K mg "_law_chunked" s__law_chunked
  _law_body_read : GFun K mg "_law_body_read" s__law_body_read
  _law_one : GFun K mg "_law_one" s__law_one
  _law_reading : GFun K mg "_law_reading" s__law_reading
  _law_ended : GFun K mg "_law_ended" s__law_ended
  _law_lines : GFun K mg "_law_lines" s__law_lines
  _law_spoilt : GFun K mg "_law_spoilt" s__law_spoilt
  _law_pieces : GFun K mg "_law_pieces" s__law_pieces
  _law_stands : GFun K mg "_law_stands" s__law_stands
  _law_fed : GFun K mg "_law_fed" s__law_fed
  _law_feed_refuses : GFun K mg "_law_feed_refuses" s__law_feed_refuses
  _law_finish_refuses : GFun K mg "_law_finish_refuses" s__law_finish_refuses
  _law_finished : GFun K mg "_law_finished" s__law_finished
  _law_side_refused : GFun K mg "_law_side_refused" s__law_side_refused
  law : GFun K mg "law" s_law
  MOST_DIGITS : GV mg "MOST_DIGITS" (.int 6)
  MOST_NAME : GV mg "MOST_NAME" (.int 30)
  MOST_PATH : GV mg "MOST_PATH" (.int 60)
  MOST_VALUE : GV mg "MOST_VALUE" (.int 200)
  MOST_LINE : GV mg "MOST_LINE" (.int 300)
  PERCENT_CODE : GV mg "PERCENT_CODE" (.int 37)
  DIGITS : GV mg "DIGITS" (str "0123456789")
  LETTERS : GV mg "LETTERS" (str "abcdefghijklmnopqrstuvwxyz")
  NAME_SIGNS : GV mg "NAME_SIGNS" (str "abcdefghijklmnopqrstuvwxyz0123456789-")
  PATH_SIGNS : GV mg "PATH_SIGNS" (str "abcdefghijklmnopqrstuvwxyz0123456789/-.")
  LENGTH_NAME : GV mg "LENGTH_NAME" (str "length")
  CHUNKS_VALUE : GV mg "CHUNKS_VALUE" (str "chunks")
  METHODS : ∃ a, CCon K mg "Request" "METHODS" (.ref a) ∧ ∀ H, SqT K H a (methodsT.map sV)
  STATUSES : ∃ a, CCon K mg "Response" "STATUSES" (.ref a) ∧ ∀ H, SqT K H a (statusesT.map sV)
  MOST_FIELDS : CCon K mg "Message" "MOST_FIELDS" (.int 40)
  MOST_BODY : CCon K mg "Message" "MOST_BODY" (.int 100000)
  SIDES : ∃ a, GV mg "SIDES" (.ref a) ∧ ∀ H, SqT K H a [str "asks", str "answers"]
  len : mg "len" = none
  int : mg "int" = none
  str : mg "str" = none
  bool : mg "bool" = none
  list : mg "list" = none
  all : mg "all" = none
  sum : mg "sum" = none
  abs : mg "abs" = none
  max : mg "max" = none
  min : mg "min" = none
  ord : mg "ord" = none
  range : mg "range" = none
  isinstance : mg "isinstance" = none
  super : mg "super" = none
end K6

set_option Elab.async false
set_option linter.all false
set_option maxRecDepth 100000
set_option maxHeartbeats 4000000
/-! HD1: what the top leaves, as Bools of a part of the heap. -/
namespace K6
open PySem PySem.Spec PyProof.Rows L2
abbrev Fg : Type := PySem.W.Frag
def FILE : PySem.Str := PySem.Challenge.pw_hopkeep_k06_whole_cutting_is_free.main.file
abbrev FnO : Type := Option (PySem.Str × PySem.Str × Arguments × FuncBody × Scope × Addr × List PySem.Str × Addr)
def fnO (K : Fg) (a : Addr) : FnO := match K.lookup a with
  | some ⟨_, _, .func z, _⟩ => some (z.name, z.qualname, z.params, z.body, z.scope, z.globals, z.closure.map (·.1), z.builtins)
  | _ => none
/-- a def: where it stands, name, qualified name, text, names of its cells -/
structure DA where
  pl : Fg → Addr
  name : PySem.Str
  qual : PySem.Str
  st : Stmt
  cl : List PySem.Str
def fnV (name qual : PySem.Str) (st : Stmt) (cl : List PySem.Str) : FnO := some (name, qual, defArgs st, .stmts (defBody st), defScope st, mainGlobals, cl, builtinsNs)
def bareV : Value → Bool
  | .none => true
  | _ => false
def bareB (K : Fg) (a : Addr) (q : PySem.Str) : Bool := PySem.W.keepIn K (.ref a) && (match K.lookup a with
  | some ⟨_, _, .func z, _⟩ => PySem.W.codeIn K z.code q && bareV z.defaults
  | _ => false)
def DA.good (K : Fg) (d : DA) : Bool := match d.cl with
  | [] => bareB K (d.pl K) d.qual
  | _ => true
def eqO (a b : Option (Option Value)) : Bool := decide (a = b)
def okB (a : Option Bool) (b : Bool) : Bool := match a with
  | some c => c == b
  | none => false
def tyB (a : Option Value) (n : String) : Bool := decide (a = some (.type n))
/-- a getter -/
def gA (K : Fg) (C : Addr) (f : PySem.Str) : Addr := match PySem.W.recIn K (He.ma K C f) "property" with
  | some (.ref g :: _) => g
  | _ => 0
/-- a constant of a class, an object -/
def ca (K : Fg) (C : Addr) (f : PySem.Str) : Addr := match PySem.W.findCls K (.ref C) (.type "type") f with
  | some (.val (.ref a)) => a
  | _ => 0
def tupA (K : Fg) (a : Addr) (vs : List V) : Bool := match K.lookup a with
  | some ⟨.type c, _, .seq its _, _⟩ => decide (c = "tuple") && (decide (its.size ≤ sizeLine) && He.relAll vs its.toList)
  | _ => false
def cconB (K : Fg) (C : Addr) (f : PySem.Str) (v : V) : Bool := PySem.W.readsIn K C (.type "type") && (eqO (PySem.W.specialIn K (.ref C) "__getattribute__") (some (some (.builtin "type.__getattribute__"))) && (match PySem.W.findCls K (.ref C) (.type "type") f with
  | some (.val u) => He.relB v u
  | _ => false))
def noatB (K : Fg) (C : Addr) (l : List PySem.Str) : Bool := l.all fun f => eqO (PySem.W.findIn K (.ref C) f) (some none)
def supC1 (K : Fg) (fl q : PySem.Str) (D cda cc : Addr) : Bool := PySem.W.codeIn K (.ref cda) q && ((match K.lookup cda with
  | some ⟨_, _, .fields vs, _⟩ => (match (vs[2]? : Option Value) with
    | some (.str g _) => fl == g
    | _ => false)
  | _ => false) && (match K.lookup cc with
  | some ⟨_, _, .cell (some (.ref D')), _⟩ => decide (D' = D)
  | _ => false))
def supC0 (K : Fg) (fl q : PySem.Str) (D : Addr) (v : Value) (cs : List (PySem.Str × Addr)) : Bool := match v, cs with
  | .ref cda, [p] => supC1 K fl q D cda p.2
  | _, _ => false
def supB (K : Fg) (fl : PySem.Str) (a : Addr) (q : PySem.Str) (D : Addr) : Bool := (match K.lookup a with
  | some ⟨_, _, .func z, _⟩ => supC0 K fl q D z.code z.closure
  | _ => false) && ((PySem.W.clsIn K D).isSome && eqO (PySem.W.nsIn K cStatics "thirdparty.any") (some none))
def supcB (K : Fg) (C D g : Addr) : Bool := okB (PySem.W.mroIn K C (.ref D)) true && ((PySem.W.clsIn K C).isSome && (eqO (PySem.W.ks_superIn K C D "__init__") (some (some (.ref g))) && (tyB (PySem.W.typeIn K (.ref g)) "function" && PySem.W.fnIn K g)))
/-- defaults: an empty tuple, an empty text -/
def dfl2B (K : Fg) (a : Addr) : Bool := match K.lookup a with
  | some ⟨_, _, .func z, _⟩ => (match z.defaults with
    | .ref t => (match K.lookup t with
      | some ⟨_, _, .seq its _, _⟩ => (match its.toList with
        | [.ref e, .str x _] => decide (x = PySem.Str.ofString "") && tupA K e []
        | _ => false)
      | _ => false)
    | _ => false)
  | _ => false
def propB (K : Fg) (C : Addr) (f : PySem.Str) : Bool := eqO (PySem.W.findIn K (.ref C) f) (some (some (.ref (He.ma K C f)))) && (eqO (PySem.W.specialIn K (.ref (He.ma K C f)) "__get__") (some (some (.builtin "property.__get__"))) && (okB (PySem.W.takesIn K (.ref (He.ma K C f))) true && (match PySem.W.recIn K (He.ma K C f) "property" with
  | some (.ref g :: _) => decide (g = gA K C f)
  | _ => false)))
def tycB (K : Fg) (C : Addr) : Bool := eqO (PySem.W.findIn K (.ref C) "__class__") (some (some (.builtin "object.__class__"))) && (eqO (PySem.W.specialIn K (.builtin "object.__class__") "__get__") (some (some (.builtin "getset_descriptor.__get__"))) &&
  (okB (PySem.W.takesIn K (.builtin "object.__class__")) true && okB (PySem.W.mroIn K C (.type "object")) true))
def exfB (K : Fg) (C : Addr) : Bool := PySem.W.keepIn K (.ref C) && (okB (PySem.W.subIn K (.ref C) (.type "BaseException")) true && (tyB (PySem.W.typeIn K (.ref C)) "type" && (okB (PySem.W.exmOne K (.ref C) (.ref C)) true &&
  (eqO (PySem.W.findIn K (.ref C) "__getattribute__") (some (some (.builtin "BaseException.__getattribute__"))) && (eqO (PySem.W.findIn K (.ref C) "__getattr__") (some none) && (PySem.W.hasDictIn K C && tycB K C))))))
def oexB (K : Fg) (C : Addr) : Bool := match K.lookup C with
  | some ⟨.type t, _, .cls cd, sl⟩ => (match cd.mro, sl.toList with
    | .ref C' :: bm, [_, _, _, _, some (.builtin n), _] => decide (t = "type") && (decide (C' = C) && (decide (n = "ValueError.__new__") && (!cd.hasDel && (cd.hasDict && PySem.HandSPX.refsVE bm))))
    | _, _ => false)
  | _ => false
def ivB (K : Fg) (C : Addr) : Bool := oexB K C && (eqO (PySem.W.findIn K (.ref C) "__setattr__") (some (some (.builtin "object.__setattr__"))) && (okB (PySem.W.subIn K (.ref C) (.type "BaseException")) true && (tyB (PySem.W.typeIn K (.ref C)) "type" && (PySem.W.keepIn K (.ref C) &&
  (okB (PySem.W.mroIn K C (.ref C)) true && ((PySem.W.clsIn K C).isSome && (eqO (PySem.W.ks_superIn K C C "__init__") (some (some (.builtin "ValueError.__init__"))) && (okB (PySem.W.subIn K (.ref C) (.type "ValueError")) true && (eqO (PySem.W.findIn K (.ref C) "name") (some none) &&
  (eqO (PySem.W.findIn K (.ref C) "__init__") (some (some (.ref (He.ma K C "__init__")))) && (tyB (PySem.W.typeIn K (.ref (He.ma K C "__init__"))) "function" && (match K.lookup (He.ma K C "__init__") with
  | some ⟨_, _, .func z, _⟩ => bareV z.defaults
  | _ => false))))))))))))
def neB (K : Fg) : Bool := decide (He.ga K "Request" ≠ He.ga K "Reader") && (decide (He.ga K "Response" ≠ He.ga K "Reader") && (decide (He.ga K "Request" ≠ He.ga K "Draft") && decide (He.ga K "Response" ≠ He.ga K "Draft")))
def hfs : List (Fg → Bool) := 
  ([fun K => (He.Fa.glo "is_plain_sign").ok K, fun K => (He.Fa.glo "is_plain").ok K, fun K => (He.Fa.glo "consists_of").ok K, fun K => (He.Fa.glo "is_path").ok K, fun K => (He.Fa.glo "is_field_name").ok K, fun K => (He.Fa.glo "is_value").ok K, fun K => (He.Fa.glo "read_number").ok K, fun K => (He.Fa.glo "is_body_text").ok K, fun K => (He.Fa.glo "parse_start").ok K, fun K => (He.Fa.glo "empty_message").ok K, fun K => (He.Fa.glo "parse_field").ok K, fun K => (He.Fa.glo "_law_bag").ok K, fun K => (He.Fa.glo "_law_draw").ok K, fun K => (He.Fa.glo "_law_pick").ok K, fun K => (He.Fa.glo "_law_most").ok K, fun K => (He.Fa.glo "_law_word").ok K, fun K => (He.Fa.glo "_law_letters").ok K, fun K => (He.Fa.glo "_law_signs").ok K, fun K => (He.Fa.glo "_law_all_in").ok K, fun K => (He.Fa.glo "_law_is_path").ok K] : List (Fg → Bool)) ++
  ([fun K => (He.Fa.glo "_law_is_name").ok K, fun K => (He.Fa.glo "_law_is_value").ok K, fun K => (He.Fa.glo "_law_digits").ok K, fun K => (He.Fa.glo "_law_statuses").ok K, fun K => (He.Fa.glo "_law_may").ok K, fun K => (He.Fa.glo "_law_name").ok K, fun K => (He.Fa.glo "_law_value").ok K, fun K => (He.Fa.glo "_law_names").ok K, fun K => (He.Fa.glo "_law_body").ok K, fun K => (He.Fa.glo "_law_row").ok K, fun K => (He.Fa.glo "_law_same").ok K, fun K => (He.Fa.glo "_law_all_same").ok K, fun K => (He.Fa.glo "_law_loose_line").ok K, fun K => (He.Fa.glo "_law_loose_chunks").ok K, fun K => (He.Fa.glo "_law_loose").ok K, fun K => (He.Fa.glo "_law_stream").ok K, fun K => (He.Fa.glo "_law_bad_sign").ok K, fun K => (He.Fa.glo "_law_line").ok K, fun K => (He.Fa.glo "_law_starts").ok K, fun K => (He.Fa.glo "_law_line_fault").ok K] : List (Fg → Bool)) ++
  ([fun K => (He.Fa.glo "_law_head").ok K, fun K => (He.Fa.glo "_law_chunked").ok K, fun K => (He.Fa.glo "_law_body_read").ok K, fun K => (He.Fa.glo "_law_one").ok K, fun K => (He.Fa.glo "_law_reading").ok K, fun K => (He.Fa.glo "_law_ended").ok K, fun K => (He.Fa.glo "_law_lines").ok K, fun K => (He.Fa.glo "_law_spoilt").ok K, fun K => (He.Fa.glo "_law_pieces").ok K, fun K => (He.Fa.glo "_law_stands").ok K, fun K => (He.Fa.glo "_law_fed").ok K, fun K => (He.Fa.glo "_law_feed_refuses").ok K, fun K => (He.Fa.glo "_law_finish_refuses").ok K, fun K => (He.Fa.glo "_law_finished").ok K, fun K => (He.Fa.glo "_law_side_refused").ok K, fun K => (He.Fa.glo "law").ok K, fun K => (He.Fa.int "MOST_DIGITS" 6).ok K, fun K => (He.Fa.int "MOST_NAME" 30).ok K, fun K => (He.Fa.int "MOST_PATH" 60).ok K, fun K => (He.Fa.int "MOST_VALUE" 200).ok K] : List (Fg → Bool)) ++
  ([fun K => (He.Fa.int "MOST_LINE" 300).ok K, fun K => (He.Fa.int "PERCENT_CODE" 37).ok K, fun K => (He.Fa.str "DIGITS" "0123456789").ok K, fun K => (He.Fa.str "LETTERS" "abcdefghijklmnopqrstuvwxyz").ok K, fun K => (He.Fa.str "NAME_SIGNS" "abcdefghijklmnopqrstuvwxyz0123456789-").ok K, fun K => (He.Fa.str "PATH_SIGNS" "abcdefghijklmnopqrstuvwxyz0123456789/-.").ok K, fun K => (He.Fa.str "LENGTH_NAME" "length").ok K, fun K => (He.Fa.str "CHUNKS_VALUE" "chunks").ok K, fun K => (He.Fa.glo "Request").ok K, fun K => cconB K (He.ga K "Request") "METHODS" (.ref (ca K (He.ga K "Request") "METHODS")), fun K => tupA K (ca K (He.ga K "Request") "METHODS") (methodsT.map sV), fun K => (He.Fa.glo "Response").ok K, fun K => cconB K (He.ga K "Response") "STATUSES" (.ref (ca K (He.ga K "Response") "STATUSES")), fun K => tupA K (ca K (He.ga K "Response") "STATUSES") (statusesT.map sV), fun K => (He.Fa.glo "Message").ok K, fun K => cconB K (He.ga K "Message") "MOST_FIELDS" (.int 40), fun K => cconB K (He.ga K "Message") "MOST_BODY" (.int 100000), fun K => (He.Fa.glo "SIDES").ok K, fun K => tupA K (He.ga K "SIDES") [K6.str "asks", K6.str "answers"], fun K => (He.Fa.free "len").ok K] : List (Fg → Bool)) ++
  ([fun K => (He.Fa.free "int").ok K, fun K => (He.Fa.free "str").ok K, fun K => (He.Fa.free "bool").ok K, fun K => (He.Fa.free "list").ok K, fun K => (He.Fa.free "all").ok K, fun K => (He.Fa.free "sum").ok K, fun K => (He.Fa.free "abs").ok K, fun K => (He.Fa.free "max").ok K, fun K => (He.Fa.free "min").ok K, fun K => (He.Fa.free "ord").ok K, fun K => (He.Fa.free "range").ok K, fun K => (He.Fa.free "isinstance").ok K, fun K => (He.Fa.free "super").ok K, fun K => (He.Fa.glo "Draft").ok K, fun K => (He.Fa.glo "Reader").ok K, fun K => (He.Fa.cls "Request").ok K, fun K => (He.Fa.cls "Response").ok K, fun K => (He.Fa.cls "Draft").ok K, fun K => (He.Fa.cls "Reader").ok K, fun K => noatB K (He.ga K "Request") ["method", "path", "fields", "body"]] : List (Fg → Bool)) ++
  ([fun K => noatB K (He.ga K "Response") ["status", "fields", "body"], fun K => noatB K (He.ga K "Draft") ["blank", "fields", "framing_value", "open_ended", "body_signs", "signs_due"], fun K => noatB K (He.ga K "Reader") ["stream_side", "stage_name", "fault_found", "messages_done", "signs_read", "unfinished_line", "draft", "stream_ended"], fun K => supB K FILE (He.ma K (He.ga K "Request") "__init__") "Request.__init__" (He.ga K "Request"), fun K => (He.Fa.mkr "Request").ok K, fun K => supcB K (He.ga K "Request") (He.ga K "Request") (He.ma K (He.ga K "Message") "__init__"), fun K => dfl2B K (He.ma K (He.ga K "Request") "__init__"), fun K => supB K FILE (He.ma K (He.ga K "Response") "__init__") "Response.__init__" (He.ga K "Response"), fun K => (He.Fa.mkr "Response").ok K, fun K => supcB K (He.ga K "Response") (He.ga K "Response") (He.ma K (He.ga K "Message") "__init__"), fun K => dfl2B K (He.ma K (He.ga K "Response") "__init__"), fun K => (He.Fa.mkr "Draft").ok K, fun K => (He.Fa.mkr "Reader").ok K, fun K => propB K (He.ga K "Request") "start", fun K => propB K (He.ga K "Response") "start", fun K => propB K (He.ga K "Request") "may_have_body", fun K => propB K (He.ga K "Response") "may_have_body", fun K => propB K (He.ga K "Reader") "stage", fun K => propB K (He.ga K "Reader") "fault", fun K => propB K (He.ga K "Reader") "completed"] : List (Fg → Bool)) ++
  ([fun K => (He.Fa.meth "Request" "start_line").ok K, fun K => (He.Fa.meth "Request" "body_allowed").ok K, fun K => (He.Fa.meth "Request" "remade").ok K, fun K => (He.Fa.meth "Response" "start_line").ok K, fun K => (He.Fa.meth "Response" "body_allowed").ok K, fun K => (He.Fa.meth "Response" "remade").ok K, fun K => (He.Fa.meth "Draft" "finished_message").ok K, fun K => (He.Fa.meth "Reader" "feed").ok K, fun K => (He.Fa.meth "Reader" "finish").ok K, fun K => (He.Fa.meth "Reader" "break_off").ok K, fun K => (He.Fa.meth "Reader" "read_sign").ok K, fun K => (He.Fa.meth "Reader" "read_line").ok K, fun K => (He.Fa.meth "Reader" "read_start_line").ok K, fun K => (He.Fa.meth "Reader" "read_field_line").ok K, fun K => (He.Fa.meth "Reader" "read_framing_line").ok K, fun K => (He.Fa.meth "Reader" "begin_body").ok K, fun K => (He.Fa.meth "Reader" "read_body_sign").ok K, fun K => (He.Fa.meth "Reader" "read_chunk_end").ok K, fun K => (He.Fa.meth "Reader" "read_size_line").ok K, fun K => (He.Fa.meth "Reader" "complete_message").ok K] : List (Fg → Bool)) ++
  ([fun K => tycB K (He.ga K "Request"), fun K => tycB K (He.ga K "Response"), fun K => okB (PySem.W.kitOne K (.ref (He.ga K "Request")) (.ref (He.ga K "Request"))) true, fun K => okB (PySem.W.kitOne K (.ref (He.ga K "Request")) (.ref (He.ga K "Response"))) false, fun K => okB (PySem.W.kitOne K (.ref (He.ga K "Response")) (.ref (He.ga K "Request"))) false, fun K => okB (PySem.W.kitOne K (.ref (He.ga K "Response")) (.ref (He.ga K "Response"))) true, fun K => (He.Fa.glo "ReaderClosed").ok K, fun K => exfB K (He.ga K "ReaderClosed"), fun K => (He.Fa.exc "ReaderClosed").ok K, fun K => (He.Fa.glo "InvalidValue").ok K, fun K => exfB K (He.ga K "InvalidValue"), fun K => (He.Fa.glo "InvalidMessage").ok K, fun K => (He.Fa.glo "InvalidFraming").ok K, fun K => (He.Fa.free "ValueError").ok K, fun K => okB (PySem.W.kitOne K (.ref (He.ga K "ReaderClosed")) (.type "ValueError")) true, fun K => okB (PySem.W.kitAny K (.ref (He.ga K "ReaderClosed")) [.ref (He.ga K "InvalidMessage"), .ref (He.ga K "InvalidFraming"), .ref (He.ga K "InvalidValue")]) false, fun K => okB (PySem.W.kitAny K (.ref (He.ga K "InvalidValue")) [.ref (He.ga K "InvalidMessage"), .ref (He.ga K "InvalidFraming"), .ref (He.ga K "ReaderClosed")]) false, fun K => supB K FILE (He.ma K (He.ga K "InvalidValue") "__init__") "InvalidValue.__init__" (He.ga K "InvalidValue"), fun K => ivB K (He.ga K "InvalidValue"), fun K => neB K] : List (Fg → Bool))
def hds : List DA := 
  ([⟨fun K => He.ga K "is_plain_sign", "is_plain_sign", "is_plain_sign", s_is_plain_sign, []⟩, ⟨fun K => He.ga K "is_plain", "is_plain", "is_plain", s_is_plain, []⟩, ⟨fun K => He.ga K "consists_of", "consists_of", "consists_of", s_consists_of, []⟩, ⟨fun K => He.ga K "is_path", "is_path", "is_path", s_is_path, []⟩, ⟨fun K => He.ga K "is_field_name", "is_field_name", "is_field_name", s_is_field_name, []⟩, ⟨fun K => He.ga K "is_value", "is_value", "is_value", s_is_value, []⟩, ⟨fun K => He.ga K "read_number", "read_number", "read_number", s_read_number, []⟩, ⟨fun K => He.ga K "is_body_text", "is_body_text", "is_body_text", s_is_body_text, []⟩, ⟨fun K => He.ga K "parse_start", "parse_start", "parse_start", s_parse_start, []⟩, ⟨fun K => He.ga K "empty_message", "empty_message", "empty_message", s_empty_message, []⟩, ⟨fun K => He.ga K "parse_field", "parse_field", "parse_field", s_parse_field, []⟩, ⟨fun K => He.ga K "_law_bag", "_law_bag", "_law_bag", s__law_bag, []⟩, ⟨fun K => He.ga K "_law_draw", "_law_draw", "_law_draw", s__law_draw, []⟩, ⟨fun K => He.ga K "_law_pick", "_law_pick", "_law_pick", s__law_pick, []⟩, ⟨fun K => He.ga K "_law_most", "_law_most", "_law_most", s__law_most, []⟩, ⟨fun K => He.ga K "_law_word", "_law_word", "_law_word", s__law_word, []⟩, ⟨fun K => He.ga K "_law_letters", "_law_letters", "_law_letters", s__law_letters, []⟩, ⟨fun K => He.ga K "_law_signs", "_law_signs", "_law_signs", s__law_signs, []⟩, ⟨fun K => He.ga K "_law_all_in", "_law_all_in", "_law_all_in", s__law_all_in, []⟩, ⟨fun K => He.ga K "_law_is_path", "_law_is_path", "_law_is_path", s__law_is_path, []⟩] : List DA) ++
  ([⟨fun K => He.ga K "_law_is_name", "_law_is_name", "_law_is_name", s__law_is_name, []⟩, ⟨fun K => He.ga K "_law_is_value", "_law_is_value", "_law_is_value", s__law_is_value, []⟩, ⟨fun K => He.ga K "_law_digits", "_law_digits", "_law_digits", s__law_digits, []⟩, ⟨fun K => He.ga K "_law_statuses", "_law_statuses", "_law_statuses", s__law_statuses, []⟩, ⟨fun K => He.ga K "_law_may", "_law_may", "_law_may", s__law_may, []⟩, ⟨fun K => He.ga K "_law_name", "_law_name", "_law_name", s__law_name, []⟩, ⟨fun K => He.ga K "_law_value", "_law_value", "_law_value", s__law_value, []⟩, ⟨fun K => He.ga K "_law_names", "_law_names", "_law_names", s__law_names, []⟩, ⟨fun K => He.ga K "_law_body", "_law_body", "_law_body", s__law_body, []⟩, ⟨fun K => He.ga K "_law_row", "_law_row", "_law_row", s__law_row, []⟩, ⟨fun K => He.ga K "_law_same", "_law_same", "_law_same", s__law_same, []⟩, ⟨fun K => He.ga K "_law_all_same", "_law_all_same", "_law_all_same", s__law_all_same, []⟩, ⟨fun K => He.ga K "_law_loose_line", "_law_loose_line", "_law_loose_line", s__law_loose_line, []⟩, ⟨fun K => He.ga K "_law_loose_chunks", "_law_loose_chunks", "_law_loose_chunks", s__law_loose_chunks, []⟩, ⟨fun K => He.ga K "_law_loose", "_law_loose", "_law_loose", s__law_loose, []⟩, ⟨fun K => He.ga K "_law_stream", "_law_stream", "_law_stream", s__law_stream, []⟩, ⟨fun K => He.ga K "_law_bad_sign", "_law_bad_sign", "_law_bad_sign", s__law_bad_sign, []⟩, ⟨fun K => He.ga K "_law_line", "_law_line", "_law_line", s__law_line, []⟩, ⟨fun K => He.ga K "_law_starts", "_law_starts", "_law_starts", s__law_starts, []⟩, ⟨fun K => He.ga K "_law_line_fault", "_law_line_fault", "_law_line_fault", s__law_line_fault, []⟩] : List DA) ++
  ([⟨fun K => He.ga K "_law_head", "_law_head", "_law_head", s__law_head, []⟩, ⟨fun K => He.ga K "_law_chunked", "_law_chunked", "_law_chunked", s__law_chunked, []⟩, ⟨fun K => He.ga K "_law_body_read", "_law_body_read", "_law_body_read", s__law_body_read, []⟩, ⟨fun K => He.ga K "_law_one", "_law_one", "_law_one", s__law_one, []⟩, ⟨fun K => He.ga K "_law_reading", "_law_reading", "_law_reading", s__law_reading, []⟩, ⟨fun K => He.ga K "_law_ended", "_law_ended", "_law_ended", s__law_ended, []⟩, ⟨fun K => He.ga K "_law_lines", "_law_lines", "_law_lines", s__law_lines, []⟩, ⟨fun K => He.ga K "_law_spoilt", "_law_spoilt", "_law_spoilt", s__law_spoilt, []⟩, ⟨fun K => He.ga K "_law_pieces", "_law_pieces", "_law_pieces", s__law_pieces, []⟩, ⟨fun K => He.ga K "_law_stands", "_law_stands", "_law_stands", s__law_stands, []⟩, ⟨fun K => He.ga K "_law_fed", "_law_fed", "_law_fed", s__law_fed, []⟩, ⟨fun K => He.ga K "_law_feed_refuses", "_law_feed_refuses", "_law_feed_refuses", s__law_feed_refuses, []⟩, ⟨fun K => He.ga K "_law_finish_refuses", "_law_finish_refuses", "_law_finish_refuses", s__law_finish_refuses, []⟩, ⟨fun K => He.ga K "_law_finished", "_law_finished", "_law_finished", s__law_finished, []⟩, ⟨fun K => He.ga K "_law_side_refused", "_law_side_refused", "_law_side_refused", s__law_side_refused, []⟩, ⟨fun K => He.ga K "law", "law", "law", s_law, []⟩, ⟨fun K => He.ma K (He.ga K "Message") "__init__", "__init__", "Message.__init__", s_Message___init__, []⟩, ⟨fun K => He.ma K (He.ga K "Request") "__init__", "__init__", "Request.__init__", s_Request___init__, ["__class__"]⟩, ⟨fun K => He.ma K (He.ga K "Response") "__init__", "__init__", "Response.__init__", s_Response___init__, ["__class__"]⟩, ⟨fun K => He.ma K (He.ga K "Draft") "__init__", "__init__", "Draft.__init__", s_Draft___init__, []⟩] : List DA) ++
  ([⟨fun K => He.ma K (He.ga K "Reader") "__init__", "__init__", "Reader.__init__", s_Reader___init__, []⟩, ⟨fun K => gA K (He.ga K "Request") "start", "start", "Message.start", s_Message_start, []⟩, ⟨fun K => gA K (He.ga K "Response") "start", "start", "Message.start", s_Message_start, []⟩, ⟨fun K => gA K (He.ga K "Request") "may_have_body", "may_have_body", "Message.may_have_body", s_Message_may_have_body, []⟩, ⟨fun K => gA K (He.ga K "Response") "may_have_body", "may_have_body", "Message.may_have_body", s_Message_may_have_body, []⟩, ⟨fun K => gA K (He.ga K "Reader") "stage", "stage", "Reader.stage", s_Reader_stage, []⟩, ⟨fun K => gA K (He.ga K "Reader") "fault", "fault", "Reader.fault", s_Reader_fault, []⟩, ⟨fun K => gA K (He.ga K "Reader") "completed", "completed", "Reader.completed", s_Reader_completed, []⟩, ⟨fun K => He.ma K (He.ga K "Request") "start_line", "start_line", "Request.start_line", s_Request_start_line, []⟩, ⟨fun K => He.ma K (He.ga K "Request") "body_allowed", "body_allowed", "Request.body_allowed", s_Request_body_allowed, []⟩, ⟨fun K => He.ma K (He.ga K "Request") "remade", "remade", "Request.remade", s_Request_remade, []⟩, ⟨fun K => He.ma K (He.ga K "Response") "start_line", "start_line", "Response.start_line", s_Response_start_line, []⟩, ⟨fun K => He.ma K (He.ga K "Response") "body_allowed", "body_allowed", "Response.body_allowed", s_Response_body_allowed, []⟩, ⟨fun K => He.ma K (He.ga K "Response") "remade", "remade", "Response.remade", s_Response_remade, []⟩, ⟨fun K => He.ma K (He.ga K "Draft") "finished_message", "finished_message", "Draft.finished_message", s_Draft_finished_message, []⟩, ⟨fun K => He.ma K (He.ga K "Reader") "feed", "feed", "Reader.feed", s_Reader_feed, []⟩, ⟨fun K => He.ma K (He.ga K "Reader") "finish", "finish", "Reader.finish", s_Reader_finish, []⟩, ⟨fun K => He.ma K (He.ga K "Reader") "break_off", "break_off", "Reader.break_off", s_Reader_break_off, []⟩, ⟨fun K => He.ma K (He.ga K "Reader") "read_sign", "read_sign", "Reader.read_sign", s_Reader_read_sign, []⟩, ⟨fun K => He.ma K (He.ga K "Reader") "read_line", "read_line", "Reader.read_line", s_Reader_read_line, []⟩] : List DA) ++
  ([⟨fun K => He.ma K (He.ga K "Reader") "read_start_line", "read_start_line", "Reader.read_start_line", s_Reader_read_start_line, []⟩, ⟨fun K => He.ma K (He.ga K "Reader") "read_field_line", "read_field_line", "Reader.read_field_line", s_Reader_read_field_line, []⟩, ⟨fun K => He.ma K (He.ga K "Reader") "read_framing_line", "read_framing_line", "Reader.read_framing_line", s_Reader_read_framing_line, []⟩, ⟨fun K => He.ma K (He.ga K "Reader") "begin_body", "begin_body", "Reader.begin_body", s_Reader_begin_body, []⟩, ⟨fun K => He.ma K (He.ga K "Reader") "read_body_sign", "read_body_sign", "Reader.read_body_sign", s_Reader_read_body_sign, []⟩, ⟨fun K => He.ma K (He.ga K "Reader") "read_chunk_end", "read_chunk_end", "Reader.read_chunk_end", s_Reader_read_chunk_end, []⟩, ⟨fun K => He.ma K (He.ga K "Reader") "read_size_line", "read_size_line", "Reader.read_size_line", s_Reader_read_size_line, []⟩, ⟨fun K => He.ma K (He.ga K "Reader") "complete_message", "complete_message", "Reader.complete_message", s_Reader_complete_message, []⟩, ⟨fun K => He.ma K (He.ga K "InvalidValue") "__init__", "__init__", "InvalidValue.__init__", s_InvalidValue___init__, ["__class__"]⟩] : List DA)
abbrev AlK : Type := Bool × List FnO
def obsK (K : Fg) : AlK := ((hfs.all fun b => b K) && hds.all fun d => d.good K, hds.map fun d => fnO K (d.pl K))
def valK : AlK := (true, hds.map fun d => fnV d.name d.qual d.st d.cl)
def SaysK (K : Fg) : Prop := obsK K = valK
end K6

set_option Elab.async false
set_option linter.all false
set_option maxRecDepth 100000
set_option maxHeartbeats 0
/-! HD2: the head runs. -/
namespace K6H
open PySem PySem.Spec PyProof.Rows L2 K6
abbrev RWk : PySem.W.OpenRow := PySem.W.OpenLaw.row PySem.Challenge.rw_hopkeep_k06_whole_cutting_is_free
def hClsN : List PySem.Str := 
  (["HopError", "InvalidValue", "InvalidMessage", "InvalidFraming", "ReaderClosed", "Message", "Request", "Response", "Draft", "Reader"] : List PySem.Str)
def vals_ (o : Option Obj) : List Addr := match o with
  | some ⟨_, _, .dict es _, _⟩ => es.toList.flatMap fun e => He.refV e.val
  | _ => []
def nsOf (o : Option Obj) : List Addr := match o with
  | some ⟨_, _, .cls cd, _⟩ => [cd.ns]
  | _ => []
def recs_ (o : Option Obj) : List Addr := match o with
  | some ⟨_, _, .fields vs, _⟩ => vs.toList.flatMap He.refV
  | _ => []
def seqs_ (o : Option Obj) : List Addr := match o with
  | some ⟨_, _, .seq vs _, _⟩ => vs.toList.flatMap He.refV
  | _ => []
def parts_ (o : Option Obj) : List Addr := match o with
  | some ⟨_, _, .func z, _⟩ => He.refV z.code ++ He.refV z.defaults ++ z.closure.map (·.2)
  | _ => []
def dfls_ (o : Option Obj) : List Addr := match o with
  | some ⟨_, _, .func z, _⟩ => He.refV z.defaults
  | _ => []
/-- the classes, their names, what they name, getters, what the module names -/
def asM (g : Addr → Option Obj) (C N : List Addr) : List Addr := C ++ N ++ N.flatMap fun a => vals_ (g a)
def asF (g : Addr → Option Obj) : List Addr :=
  let C := hClsN.map fun x => He.ga (He.frG g [mainGlobals]) x
  let N := C.flatMap fun a => nsOf (g a)
  let M := N.flatMap fun a => vals_ (g a)
  C ++ N ++ (M ++ (M.flatMap fun a => recs_ (g a)) ++ vals_ (g mainGlobals))
def asP (g : Addr → Option Obj) (F : List Addr) : List Addr := mainGlobals :: cStatics :: (F ++ F.flatMap fun a => parts_ (g a) ++ (dfls_ (g a)).flatMap fun b => seqs_ (g b))
def asK (g : Addr → Option Obj) : List Addr := asP g (asF g)
def obG (g : Addr → Option Obj) : AlK := obsK (He.frG g (asK g))
def hk : PySem.W.Hook where
  α := AlK
  obs := fun s => obG s.heap.get?
  val := fun _ => valK
  says := fun _ h => ∃ K : Fg, K.In h ∧ SaysK K
  of := fun _ _ e => ⟨_, He.frG_in, e⟩
  keeps := fun _ _ _ ⟨K, hK, c⟩ k => ⟨K, PySem.W.Frag.In.keeps hK k, c⟩
def ob (s : PySem.W.SharedT) : AlK := obG (HandSHeadRun.getT s)
theorem ob_eq (s : PySem.W.SharedT) : ob s = hk.obs s.abs := by
  have e : HandSHeadRun.getT s = s.abs.heap.get? := funext (HandSHeadRun.getT_eq s)
  show obG (HandSHeadRun.getT s) = obG s.abs.heap.get?
  rw [e]
def loose : List PySem.Str := 
  (["_wall", "HopError", "InvalidValue", "InvalidMessage", "InvalidFraming", "ReaderClosed", "DIGITS", "LETTERS", "NAME_SIGNS", "PATH_SIGNS", "MOST_DIGITS", "MOST_NAME", "MOST_PATH", "MOST_VALUE", "LENGTH_NAME", "PERCENT_CODE", "is_plain_sign", "is_plain", "consists_of", "is_path", "is_field_name", "is_value", "read_number", "is_body_text", "Message", "Request", "Response", "SIDES", "CHUNKS_VALUE", "MOST_LINE"] : List PySem.Str) ++
  (["parse_start", "empty_message", "parse_field", "Draft", "Reader", "_law_bag", "_law_draw", "_law_pick", "_law_most", "_law_word", "_law_letters", "_law_signs", "_law_all_in", "_law_is_path", "_law_is_name", "_law_is_value", "_law_digits", "_law_statuses", "_law_may", "_law_name", "_law_value", "_law_names", "_law_body", "_law_row", "_law_same", "_law_all_same", "_law_loose_line", "_law_loose_chunks", "_law_loose", "_law_stream"] : List PySem.Str) ++
  (["_law_bad_sign", "_law_line", "_law_starts", "_law_line_fault", "_law_head", "_law_chunked", "_law_body_read", "_law_one", "_law_reading", "_law_ended", "_law_lines", "_law_spoilt", "_law_pieces", "_law_stands", "_law_fed", "_law_feed_refuses", "_law_finish_refuses", "_law_finished", "_law_side_refused"] : List PySem.Str)
def kk (s : PySem.W.SharedT) : Fg := He.frG (HandSHeadRun.getT s) (asK (HandSHeadRun.getT s))
section
open HandSHeadRun PySem.W
abbrev qV : Program := PySem.W.view RWk.prog [85]
/-- the top, run once for each part of what is asked -/
noncomputable abbrev top_ (w : World) (os : OsState) : Option SharedT := endF (stepQ (denQ tabQ) RWk.prog w) 20000 RWk.prog w os
theorem hr_a (w : World) (os : OsState) : (top_ w os).map (fun s => (looksF RWk.prog (boot_heap w.params) s.abs, seenQ qV loose (importedModules RWk.prog.main.body) (fun s => xlAt qV [] s && recOk RWk.toRowW.records s) s.abs)) = some (true, openGood qV loose) := by
  kernel_rfl
theorem hr_b (w : World) (os : OsState) : (top_ w os).map (fun s => hfs.all fun b => b (kk s)) = some true := by
  kernel_rfl
theorem hr_c (w : World) (os : OsState) : (top_ w os).map (fun s => hds.all fun d => d.good (kk s)) = some true := by
  kernel_rfl
theorem hr_d (w : World) (os : OsState) : (top_ w os).map (fun s => hds.map fun d => fnO (kk s) (d.pl (kk s))) = some (hds.map fun d => fnV d.name d.qual d.st d.cl) := by
  kernel_rfl
theorem ob_is (s : SharedT) : ob s = ((hfs.all fun b => b (kk s)) && (hds.all fun d => d.good (kk s)), hds.map fun d => fnO (kk s) (d.pl (kk s))) := rfl
theorem hr_o (w : World) (os : OsState) : (top_ w os).map ob = some valK := by
  have h1 := hr_b w os
  have h2 := hr_c w os
  have h3 := hr_d w os
  revert h1 h2 h3
  generalize top_ w os = X
  intro h1 h2 h3
  cases X with
  | none => cases h1
  | some s =>
    have e1 : (hfs.all fun b => b (kk s)) = true := Option.some.inj h1
    have e2 : (hds.all fun d => d.good (kk s)) = true := Option.some.inj h2
    have e3 : (hds.map fun d => fnO (kk s) (d.pl (kk s))) = hds.map fun d => fnV d.name d.qual d.st d.cl := Option.some.inj h3
    show some (ob s) = some valK
    rw [ob_is, e1, e2, e3]
    rfl
theorem comb {α β γ : Type} {X : Option α} {f : α → Bool} {g : α → β} {k : α → γ} {b : Bool} {c : β} {d : γ} (h1 : X.map (fun s => (f s, g s)) = some (b, c)) (h2 : X.map k = some d) : X.map (fun s => (f s, g s, k s)) = some (b, c, d) := by
  cases X with
  | none => cases h1
  | some s =>
    have e1 : (f s, g s) = (b, c) := Option.some.inj h1
    have e2 : k s = d := Option.some.inj h2
    obtain ⟨e3, e4⟩ := Prod.mk.inj e1
    show some (f s, g s, k s) = some (b, c, d)
    rw [e2, e3, e4]
theorem hrun (w : World) : HandSHeadRun.RunEq RWk qV hk ob 20000 loose w := by
  intro os
  have z := comb (f := fun s : SharedT => looksF RWk.prog (boot_heap w.params) s.abs) (g := fun s : SharedT => seenQ qV loose (importedModules RWk.prog.main.body) (fun s => xlAt qV [] s && recOk RWk.toRowW.records s) s.abs) (hr_a w os) (hr_o w os)
  exact z
end
end K6H

set_option Elab.async false
set_option linter.all false
set_option maxRecDepth 100000
set_option maxHeartbeats 4000000
/-! KW2: the program's tests of texts. -/
namespace K6
open PySem PySem.Spec PyProof.Rows L2
theorem lt1 (a b : Nat) : decide (([a] : List Nat) < [b]) = decide (a < b) := by
  have e : (([a] : List Nat) < [b]) ↔ a < b := by
    rw [List.cons_lt_cons_iff]
    simp
  exact decide_eq_decide.mpr e
section
variable {P : Program} {w : World} {K : PySem.W.Frag} {mg : PySem.Str → Option Value} {base : Heap}
def sp_is_plain_sign : Sp := fun vs H Q _ => ∃ c : Nat, vs = [.str (S [c])] ∧ Q (.bl (isPlain c)) H
theorem ok_is_plain_sign (T : Txt K mg) : Ok P w K mg base CX0 "is_plain_sign" 1 ["sign"] sp_is_plain_sign := by
  obtain ⟨f, fd, hm, F⟩ := T.is_plain_sign
  refine ⟨f, fd, hm, F.kp, F.binds fun _ _ _ _ _ _ us hl => match us, hl with | [_], _ => rfl, F.ok sc_is_plain_sign (fun vs H Q E h => ?_) (fun cdv A outer s H vs Q E hr h => ?_)⟩
  · obtain ⟨c, rfl, _⟩ := h
    rfl
  · obtain ⟨c, rfl, q⟩ := h
    refine ⟨_, pss_one (ps_ret (pe_and (pe_chain op_le_str op_le_str pe_str (pv 0) pe_str) (pe_one (pe_cmpR op_ne (pe_callB call_ord rfl T.ord (by decide +kernel) (pa_cons (pv 0) pa_nil)) (pe_gv T.PERCENT_CODE rfl) (nomark _))))), ?_⟩
    refine ⟨_, rfl, _, _, rfl, rfl, _, rfl, ?_⟩
    have e1 : (decide ((S [c]).cps.toList < (PySem.Str.ofString " ").cps.toList)) = decide (c < 32) := by
      rw [show (PySem.Str.ofString " ").cps.toList = [32] from by decide +kernel, S_cps, lt1]
    have e2 : (decide ((PySem.Str.ofString "~").cps.toList < (S [c]).cps.toList)) = decide (126 < c) := by
      rw [show (PySem.Str.ofString "~").cps.toList = [126] from by decide +kernel, S_cps, lt1]
    rw [e1]
    by_cases h : c < 32
    · rw [decide_eq_true h]
      refine iteF ⟨_, rfl, iteF ?_⟩
      have e : isPlain c = false := by unfold isPlain; simp; omega
      rw [e] at q; exact q
    · rw [decide_eq_false h]
      refine iteT ⟨_, _, rfl, rfl, _, rfl, ?_⟩
      rw [e2]
      by_cases h2 : 126 < c
      · rw [decide_eq_true h2]
        refine iteF ?_
        have e : isPlain c = false := by unfold isPlain; simp; omega
        rw [e] at q; exact q
      · rw [decide_eq_false h2]
        refine iteT ⟨_, rfl, _, rfl, rfl, rfl, ?_⟩
        have e : isPlain c = (!decide (V.int (c : Nat) = V.int 37)) := by
          unfold isPlain
          rw [decide_eq_true (show 32 ≤ c by omega), decide_eq_true (show c ≤ 126 by omega)]
          by_cases h3 : c = 37
          · subst h3; simp
          · have : ¬ ((V.int (c : Nat)) = V.int 37) := by intro z; injection z with z; omega
            rw [decide_eq_false this]; simp [h3]
        rw [e] at q
        exact q
/-- a comprehension of flags over a text -/
theorem flags {t : Tx} {p : Nat → Bool} {te : TE} {i : Nat} {σ : L2.St} {H : Hp} {D : Addr} {Qd : Hp → Prop} (hD : H D = none) (hl : t.length ≤ sizeLine)
    (hs : ∀ c H1, Same H H1 → ∀ Q : VK, (∀ H2, Same H1 H2 → Q (.bl (p c)) H2) → te (σ.set i (some (.str (S [c])))) H1 Q)
    (hd : ∀ H', Same H H' → SqL K H' D ((t.map p).map V.bl) → Qd H') :
    ∃ W : Nat → Nat → Hp → Prop, (∃ m, W 0 m (upd H D (.lst []))) ∧ ∀ j m H, W j m H →
      ((Its (S t)).stop j H ∧ Qd H) ∨ ((Its (S t)).go j H ∧ ∃ Nx : Hp → Prop, (∀ H', Nx H' → ∃ m', m' < m ∧ W (j + 1) m' H') ∧ ∀ x H', (Its (S t)).yld j H x H' → gName i x (wipe σ [i]) H' fun σ2 H2 => wipe σ2 [i] = wipe σ [i] ∧ tYes σ2 H2 fun b H3 =>
        if b = true then te σ2 H3 fun y H4 => ∃ acc, H4 D = some (.lst acc) ∧ acc.length < sizeLine ∧ Nx (upd H4 D (.lst (acc ++ [y]))) else Nx H3) := by
  refine lc_it (n := (S t).cps.size) (G := fun _ => True) walk_str (fun j H' => Same H H' ∧ H' D = some (.lst ((t.take j).map fun c => V.bl (p c)))) ⟨same_new hD, upd_same⟩ (fun _ _ _ _ => trivial) ?_ (fun H' ⟨h1, h2⟩ => hd H' h1 (SqL.of ?_))
  · rintro j x H1 H2 hj ⟨h1, h2⟩ ⟨rfl, c, hc, rfl⟩
    have hj' : j < t.length := by simpa [S] using hj
    have hc' : t[j]? = some c := by rw [← hc]; simp [S]
    have e1 : (wipe σ [i]).set i (some (V.str (S [c]))) = σ.set i (some (V.str (S [c]))) := by
      show (σ.set i none).set i _ = _
      rw [List.set_set]
    have e2 : wipe ((wipe σ [i]).set i (some (V.str (S [c])))) [i] = wipe σ [i] := by
      rw [e1]
      show (σ.set i _).set i none = σ.set i none
      rw [List.set_set]
    refine ⟨e2, ?_⟩
    show te ((wipe σ [i]).set i (some (V.str (S [c])))) _ _
    rw [e1]
    refine hs c _ h1 _ fun H3 h3 => ⟨_, h3 _ _ h2, ?_, same_mut (h1.trans h3) hD, ?_⟩
    · rw [List.length_map, List.length_take]
      omega
    · rw [upd_same, List.take_succ, hc']
      simp
  · rw [h2, show (S t).cps.size = t.length from by simp [S], List.take_length, List.map_map]
    rfl
def sp_is_plain : Sp := fun vs H Q _ => ∃ t : Tx, vs = [.str (S t)] ∧ t.length ≤ sizeLine ∧ ∀ H', Same H H' → Q (.bl (t.all isPlain)) H'
theorem ok_is_plain (T : Txt K mg) : Ok P w K mg base CX0 "is_plain" 2 ["text"] sp_is_plain := by
  obtain ⟨f, fd, hm, F⟩ := T.is_plain
  refine ⟨f, fd, hm, F.kp, F.binds fun _ _ _ _ _ _ us hl => match us, hl with | [_], _ => rfl, F.ok sc_is_plain (fun vs H Q E h => ?_) (fun cdv A outer s H vs Q E hr h => ?_)⟩
  · obtain ⟨t, rfl, _⟩ := h
    rfl
  · obtain ⟨t, rfl, hl, q⟩ := h
    refine ⟨_, pss_one (ps_ret (pe_callB (cr_all rfl) rfl T.all (by decide +kernel) (pa_cons (pe_lc (own := [("sign", 1)]) (g := gName 1) (tt := tYes) rfl sc_is_plain.nd (pi_str (pv 0)) (blkOk_by (N := ["text", "sign"]) (sc := defScope s_is_plain) (by decide +kernel)) (fun _ _ _ _ _ => pg_name (i := 1) sc_is_plain.nd rfl (Or.inl rfl)) (fun _ _ _ _ _ => pts_nil) (fun _ _ _ _ _ => (pe_callO (ok_is_plain_sign T) hr rfl (pa_cons (pv 1) pa_nil)))) pa_nil))), ?_⟩
    refine ⟨_, rfl, _, rfl, fun D hD => flags (p := isPlain) hD hl (fun c H1 h1 Q k => ⟨_, rfl, c, rfl, k _ (fun _ _ e => e)⟩) fun H' h' hq => ⟨_, _, rfl, hq, ?_⟩⟩
    rw [List.all_map]
    exact q _ h'
def sp_consists_of : Sp := fun vs H Q _ => ∃ t u : Tx, vs = [.str (S t), .str (S u)] ∧ t.length ≤ sizeLine ∧ ∀ H', Same H H' → Q (.bl (allIn t u)) H'
theorem ok_consists_of (T : Txt K mg) : Ok P w K mg base CX0 "consists_of" 1 ["text", "signs"] sp_consists_of := by
  obtain ⟨f, fd, hm, F⟩ := T.consists_of
  refine ⟨f, fd, hm, F.kp, F.binds fun _ _ _ _ _ _ us hl => match us, hl with | [_, _], _ => rfl, F.ok sc_consists_of (fun vs H Q E h => ?_) (fun cdv A outer s H vs Q E hr h => ?_)⟩
  · obtain ⟨t, u, rfl, _⟩ := h
    rfl
  · obtain ⟨t, u, rfl, hl, q⟩ := h
    refine ⟨_, pss_one (ps_ret (pe_callB (cr_all rfl) rfl T.all (by decide +kernel) (pa_cons (pe_lc (own := [("sign", 2)]) (g := gName 2) (tt := tYes) rfl sc_consists_of.nd (pi_str (pv 0)) (blkOk_by (N := ["text", "signs", "sign"]) (sc := defScope s_consists_of) (by decide +kernel)) (fun _ _ _ _ _ => pg_name (i := 2) sc_consists_of.nd rfl (Or.inl rfl)) (fun _ _ _ _ _ => pts_nil) (fun _ _ _ _ _ => (pe_cmpR op_in_sign (pv 2) (pv 1) (by rfl)))) pa_nil))), ?_⟩
    refine ⟨_, rfl, _, rfl, fun D hD => flags (p := fun c => decide (c ∈ u)) hD hl (fun c H1 h1 Q k => ⟨_, rfl, _, rfl, c, S u, rfl, rfl, k _ (fun _ _ e => e)⟩) fun H' h' hq => ⟨_, _, rfl, hq, ?_⟩⟩
    rw [List.all_map]
    exact q _ h'
end
end K6

set_option Elab.async false
set_option linter.all false
set_option maxRecDepth 100000
set_option maxHeartbeats 4000000
/-! KW3: paths, names, values, numbers. -/
namespace K6
open PySem PySem.Spec PyProof.Rows L2
theorem same_refl {H : Hp} : Same H H := fun _ _ e => e
section
variable {P : Program} {w : World} {K : PySem.W.Frag} {mg : PySem.Str → Option Value} {base : Heap}
theorem S_T' (s : String) : PySem.Str.ofString s = S (T s) := (S_T s).symm
theorem tall_take {t : Tx} {c : Nat} (h : t.head? = some c) : t ≠ [] := by intro e; rw [e] at h; cases h
theorem pre_one (c : Nat) (t : Tx) : List.isPrefixOf [c] t = decide (t.head? = some c) := by
  cases t with
  | nil => rfl
  | cons d r =>
    by_cases h : c = d
    · subst h; simp [List.isPrefixOf]
    · have h' : ¬ d = c := fun e => h e.symm
      simp [List.isPrefixOf, h, h']
theorem T_slash : T "/" = [47] := by decide +kernel
theorem at0 {t : Tx} {c : Nat} (h : t.head? = some c) : atI (S t).cps.toList 0 = some c := by
  cases t with
  | nil => cases h
  | cons d r =>
    have e : d = c := by simpa using h
    subst e
    exact atI_nat (j := 0) rfl
theorem inS_dec (c : Nat) (u : Tx) : decide (c ∈ (S u).cps.toList) = decide (c ∈ u) := rfl
def sp_is_path : Sp := fun vs H Q _ => ∃ t : Tx, vs = [.str (S t)] ∧ t.length ≤ sizeLine ∧ ∀ H', Same H H' → Q (.bl (isPathT t)) H'
theorem ok_is_path (T : Txt K mg) : Ok P w K mg base CX0 "is_path" 2 ["text"] sp_is_path := by
  obtain ⟨f, fd, hm, F⟩ := T.is_path
  refine ⟨f, fd, hm, F.kp, F.binds fun _ _ _ _ _ _ us hl => match us, hl with | [_], _ => rfl, F.ok sc_is_path (fun vs H Q E h => ?_) (fun cdv A outer s H vs Q E hr h => ?_)⟩
  · obtain ⟨t, rfl, _⟩ := h
    rfl
  · obtain ⟨t, rfl, hl, q⟩ := h
    refine ⟨_, pss_cons (ps_if (PW.pt (pw_or (pt_not (pt_val (pe_bm PySem.F.plainAttrs_str PySem.F.slot_str_startswith PySem.F.type_str_startswith mt_startswith (pv 0) (pa_cons pe_str pa_nil)))) (pw_or1 (pt_cmpR op_gt (pe_callB call_len_str rfl T.len (by decide +kernel) (pa_cons (pv 0) pa_nil)) (pe_gv T.MOST_PATH rfl) (nomark _))))) (pss_one (ps_ret pe_bl)) pss_nil) (pss_one (ps_ret (pe_callO (ok_consists_of T) hr rfl (pa_cons (pv 0) (pa_cons (pe_gv T.PATH_SIGNS rfl) pa_nil))))), ?_⟩
    refine ⟨_, rfl, rfl, _, _, rfl, rfl, _, rfl, ?_⟩
    rw [S_T' "/", startswith_S, T_slash, pre_one]
    unfold isPathT at q
    refine ite2 (fun h => iteT ?_) (fun h => ⟨_, rfl, _, rfl, hl, _, _, rfl, rfl, _, rfl, ?_⟩)
    · have e : decide (t.head? = some 47) = false := by simpa using h
      rw [e] at q
      exact q _ same_refl
    · have e : decide (t.head? = some 47) = true := by simpa using h
      rw [e] at q
      refine ite2 (fun h => ?_) (fun h => ?_)
      · have e : decide (t.length ≤ 60) = false := by
          have h := of_decide_eq_true h
          rw [S_len] at h
          exact decide_eq_false (by omega)
        rw [e] at q
        exact q _ same_refl
      · have e : decide (t.length ≤ 60) = true := by
          have h := of_decide_eq_false (eq_false_of_ne_true h)
          rw [S_len] at h
          exact decide_eq_true (by omega)
        rw [e] at q
        exact ⟨_, rfl, t, _, rfl, hl, q⟩
theorem emp_S : PySem.Str.empty = S [] := rfl
theorem len_le {t : Tx} {a : Int} {b : Bool} (h : decide (a ≤ ((S t).length : Nat)) = b) : decide (a ≤ (t.length : Nat)) = b := by rw [← S_len]; exact h
theorem nd {p : Prop} [Decidable p] (h : ¬ decide p = true) : ¬ p := fun z => h (decide_eq_true z)
theorem pn {p : Prop} [Decidable p] (h : (!decide p) = true) : ¬ p := by simpa using h
theorem pp {p : Prop} [Decidable p] (h : ¬ (!decide p) = true) : p := by simpa using h
theorem headIn_head {t : Tx} {c : Nat} (h : t.head? = some c) (u : Tx) : headIn t u = decide (c ∈ u) := by
  cases t with
  | nil => cases h
  | cons d r =>
    have e : d = c := by simpa using h
    subst e
    rfl
theorem head_some {t : Tx} (h : 1 ≤ t.length) : ∃ c, t.head? = some c := by
  cases t with
  | nil => simp at h
  | cons d r => exact ⟨d, rfl⟩
def sp_is_field_name : Sp := fun vs H Q _ => ∃ t : Tx, vs = [.str (S t)] ∧ t.length ≤ sizeLine ∧ ∀ H', Same H H' → Q (.bl (isNameT t)) H'
theorem ok_is_field_name (T : Txt K mg) : Ok P w K mg base CX0 "is_field_name" 2 ["text"] sp_is_field_name := by
  obtain ⟨f, fd, hm, F⟩ := T.is_field_name
  refine ⟨f, fd, hm, F.kp, F.binds fun _ _ _ _ _ _ us hl => match us, hl with | [_], _ => rfl, F.ok sc_is_field_name (fun vs H Q E h => ?_) (fun cdv A outer s H vs Q E hr h => ?_)⟩
  · obtain ⟨t, rfl, _⟩ := h
    rfl
  · obtain ⟨t, rfl, hl, q⟩ := h
    refine ⟨_, pss_cons (ps_if (PW.pt (pw_or (pt_not (pt_chain op_le op_le pe_int (pe_callB call_len_str rfl T.len (by decide +kernel) (pa_cons (pv 0) pa_nil)) (pe_gv T.MOST_NAME rfl))) (pw_or1 (pt_cmpR op_eq (pv 0) (pe_gv T.LENGTH_NAME rfl) (nomark _))))) (pss_one (ps_ret pe_bl)) pss_nil) (pss_one (ps_ret (pe_and (pe_cmpR op_in_sign (pe_ix ix_str (pv 0) pe_int (fun _ _ => rfl)) (pe_gv T.LETTERS rfl) (by rfl)) (pe_one (pe_callO (ok_consists_of T) hr rfl (pa_cons (pv 0) (pa_cons (pe_gv T.NAME_SIGNS rfl) pa_nil))))))), ?_⟩
    unfold isNameT at q
    refine ⟨_, rfl, _, rfl, hl, _, _, rfl, rfl, _, rfl, ?_⟩
    rw [S_len]
    refine ite2 (fun h1 => ⟨_, _, rfl, rfl, _, rfl, ?_⟩) (fun h1 => ⟨_, rfl, iteT (iteT ?_)⟩)
    · have h1 : 1 ≤ t.length := by have := of_decide_eq_true h1; omega
      rw [decide_eq_true h1] at q
      refine ite2 (fun h2 => iteT ?_) (fun h2 => ⟨_, rfl, rfl, _, rfl, ?_⟩)
      · have e : decide (t.length ≤ 30) = false := decide_eq_false (by have := pn h2; omega)
        rw [e] at q
        exact q _ same_refl
      · have e : decide (t.length ≤ 30) = true := decide_eq_true (by have := pp h2; omega)
        rw [e] at q
        rw [dec_T]
        refine ite2 (fun h3 => ?_) (fun h3 => ?_)
        · have h3 : t = K6.T "length" := of_decide_eq_true h3
          have e : decide (t ≠ K6.T "length") = false := decide_eq_false (fun z => z h3)
          rw [e] at q
          exact q _ same_refl
        · have h3 : ¬ t = K6.T "length" := by simpa using h3
          rw [decide_eq_true h3] at q
          obtain ⟨c, hc⟩ := head_some h1
          rw [headIn_head hc] at q
          refine ⟨_, rfl, _, _, _, rfl, rfl, hl, at0 hc, _, _, rfl, rfl, _, rfl, ?_⟩
          refine ite2 (fun h4 => ⟨_, rfl, t, nameSigns, rfl, hl, ?_⟩) (fun h4 => ?_)
          · rw [show decide (c ∈ letters) = true from h4] at q
            exact q
          · have h4 : decide (c ∈ letters) = false := eq_false_of_ne_true h4
            rw [h4] at q
            exact q _ same_refl
    · have e : decide (1 ≤ t.length) = false := decide_eq_false (by have := nd h1; omega)
      rw [e] at q
      exact q _ same_refl
def sp_is_value : Sp := fun vs H Q _ => ∃ t : Tx, vs = [.str (S t)] ∧ t.length ≤ sizeLine ∧ ∀ H', Same H H' → Q (.bl (isValueT t)) H'
theorem ok_is_value (T : Txt K mg) : Ok P w K mg base CX0 "is_value" 3 ["text"] sp_is_value := by
  obtain ⟨f, fd, hm, F⟩ := T.is_value
  refine ⟨f, fd, hm, F.kp, F.binds fun _ _ _ _ _ _ us hl => match us, hl with | [_], _ => rfl, F.ok sc_is_value (fun vs H Q E h => ?_) (fun cdv A outer s H vs Q E hr h => ?_)⟩
  · obtain ⟨t, rfl, _⟩ := h
    rfl
  · obtain ⟨t, rfl, hl, q⟩ := h
    refine ⟨_, pss_one (ps_ret (pe_and (pe_cmpR op_le (pe_callB call_len_str rfl T.len (by decide +kernel) (pa_cons (pv 0) pa_nil)) (pe_gv T.MOST_VALUE rfl) (nomark _)) (pe_and (pe_callO (ok_is_plain T) hr rfl (pa_cons (pv 0) pa_nil)) (pe_one (pe_cmpR op_eq (pv 0) (pe_bm PySem.F.plainAttrs_str PySem.F.slot_str_strip PySem.F.type_str_strip mt_stripChars (pv 0) (pa_cons pe_str pa_nil)) (nomark _)))))), ?_⟩
    unfold isValueT at q
    refine ⟨_, rfl, _, rfl, hl, _, _, rfl, rfl, _, rfl, ?_⟩
    rw [S_len]
    refine ite2 (fun h1 => ⟨_, rfl, t, rfl, hl, fun H1 s1 => ⟨_, rfl, ?_⟩⟩) (fun h1 => ?_)
    · have e : decide (t.length ≤ 200) = true := decide_eq_true (by have := of_decide_eq_true h1; omega)
      rw [e] at q
      refine ite2 (fun h2 => ⟨_, rfl, _, rfl, rfl, _, _, rfl, rfl, hl, rfl, ?_⟩) (fun h2 => ?_)
      · rw [strip_S, dec_SS]
        rw [h2] at q
        exact q _ s1
      · have h2 := eq_false_of_ne_true h2
        rw [h2] at q
        exact q _ s1
    · have e : decide (t.length ≤ 200) = false := decide_eq_false (by have := nd h1; omega)
      rw [e] at q
      exact q _ same_refl
def numV (t : Tx) : V := match numT t with
  | none => .non
  | some n => .int (n : Nat)
def sp_read_number : Sp := fun vs H Q _ => ∃ t : Tx, vs = [.str (S t)] ∧ t.length ≤ sizeLine ∧ ∀ H', Same H H' → Q (numV t) H'
theorem ok_read_number (T : Txt K mg) : Ok P w K mg base CX0 "read_number" 2 ["text"] sp_read_number := by
  obtain ⟨f, fd, hm, F⟩ := T.read_number
  refine ⟨f, fd, hm, F.kp, F.binds fun _ _ _ _ _ _ us hl => match us, hl with | [_], _ => rfl, F.ok sc_read_number (fun vs H Q E h => ?_) (fun cdv A outer s H vs Q E hr h => ?_)⟩
  · obtain ⟨t, rfl, _⟩ := h
    rfl
  · obtain ⟨t, rfl, hl, q⟩ := h
    refine ⟨_, pss_cons (ps_if (PW.pt (pw_or (pt_not (pt_chain op_le op_le pe_int (pe_callB call_len_str rfl T.len (by decide +kernel) (pa_cons (pv 0) pa_nil)) (pe_gv T.MOST_DIGITS rfl))) (pw_or1 (pt_not (pt_val (pe_callO (ok_consists_of T) hr rfl (pa_cons (pv 0) (pa_cons (pe_gv T.DIGITS rfl) pa_nil)))))))) (pss_one (ps_ret pe_non)) pss_nil) (pss_cons (ps_if (PW.pt (pw_and (pt_cmpR op_eq (pe_ix ix_str (pv 0) pe_int (fun _ _ => rfl)) pe_str (nomark _)) (pw_and1 (pt_cmpR op_ne (pv 0) pe_str (nomark _))))) (pss_one (ps_ret pe_non)) pss_nil) (pss_one (ps_ret (pe_callTy call_int_str rfl T.int (by decide +kernel) (pa_cons (pv 0) pa_nil))))), ?_⟩
    have no : digT t = false → ∀ H', Same H H' → Q .non H' := fun e => by
      have : numV t = .non := by unfold numV numT; rw [e]; rfl
      rw [this] at q
      exact q
    refine ⟨_, rfl, _, rfl, hl, _, _, rfl, rfl, _, rfl, ?_⟩
    rw [S_len]
    refine ite2 (fun h1 => ⟨_, _, rfl, rfl, _, rfl, ?_⟩) (fun h1 => ⟨_, rfl, iteT (iteT ?_)⟩)
    · have h1 : 1 ≤ t.length := by have := of_decide_eq_true h1; omega
      refine ite2 (fun h2 => iteT ?_) (fun h2 => ⟨_, rfl, t, digits, rfl, hl, fun H1 s1 => ⟨_, rfl, ?_⟩⟩)
      · have e : decide (t.length ≤ 6) = false := decide_eq_false (by have := pn h2; omega)
        refine no ?_ _ same_refl
        unfold digT
        rw [e]
        simp
      · have h2 : t.length ≤ 6 := by have := pp h2; omega
        refine ite2 (fun h3 => ?_) (fun h3 => ?_)
        · refine no ?_ _ s1
          have h3 : allIn t digits = false := by simpa using h3
          unfold digT
          rw [h3]
          simp
        · have h3 : allIn t digits = true := by simpa using h3
          obtain ⟨c, hc⟩ := head_some h1
          refine ⟨_, rfl, _, _, _, rfl, rfl, hl, at0 hc, rfl, _, rfl, ?_⟩
          have e48 : decide (V.str (⟨#[c]⟩ : PySem.Str) = V.str (PySem.Str.ofString "0")) = decide (c = 48) := by
            have : (⟨#[c]⟩ : PySem.Str) = S [c] := rfl
            rw [this, dec_T, show K6.T "0" = [48] from by decide +kernel]
            exact decide_eq_decide.mpr (by simp)
          rw [e48]
          have yes : digT t = true → Q (.int ((NumText.digitsVal t : Nat) : Int)) H1 := fun e => by
            have : numV t = .int ((NumText.digitsVal t : Nat) : Int) := by unfold numV numT; rw [if_pos e]
            rw [← this]
            exact q _ s1
          refine ite2 (fun h4 => ⟨_, rfl, rfl, _, rfl, ?_⟩) (fun h4 => ?_)
          · have h4 : c = 48 := of_decide_eq_true h4
            rw [dec_T]
            refine ite2 (fun h5 => ?_) (fun h5 => ?_)
            · refine no ?_ _ s1
              have h5 : t ≠ [48] := by rw [show K6.T "0" = [48] from by decide +kernel] at h5; simpa using h5
              have h6 : t.length ≠ 1 := fun z => by
                obtain ⟨d, rfl⟩ := List.length_eq_one_iff.mp z
                have : d = c := by simpa using hc
                rw [this, h4] at h5
                exact h5 rfl
              unfold digT
              rw [hc, h4, decide_eq_false h6]
              simp
            · have h5 : t = [48] := by rw [show K6.T "0" = [48] from by decide +kernel] at h5; simpa using h5
              have e : digT t = true := by rw [h5]; decide +kernel
              exact ⟨_, rfl, _, _, rfl, digT_int e, by rw [S_len]; omega, yes e⟩
          · have h4 : c ≠ 48 := by simpa using h4
            have e : digT t = true := by
              unfold digT
              rw [hc, decide_eq_true h1, decide_eq_true h2, h3, decide_eq_true (show some c ≠ some 48 from fun z => h4 (by injection z))]
              simp
            exact ⟨_, rfl, _, _, rfl, digT_int e, by rw [S_len]; omega, yes e⟩
    · have e : decide (1 ≤ t.length) = false := decide_eq_false (by have := nd h1; omega)
      refine no ?_ _ same_refl
      unfold digT
      rw [e]
      simp
end
end K6

set_option Elab.async false
set_option linter.all false
set_option maxRecDepth 100000
set_option maxHeartbeats 4000000
/-! KW4: the law's own tests of texts. -/
namespace K6
open PySem PySem.Spec PyProof.Rows L2
theorem add_S (a : Tx) (s : String) (b : Tx) (h : a ++ T s = b) : S a ++ PySem.Str.ofString s = S b := by rw [S_T', S_app, h]
def signsT : Tx := T " !\"#$&'()*+,-./0123456789:;<=>?@ABCDEFGHIJKLMNOPQRSTUVWXYZ[\\]^_`" ++ T "abcdefghijklmnopqrstuvwxyz{|}~"
theorem signs_plain (c : Nat) : decide (c ∈ signsT) = isPlain c := by
  have h1 : ∀ c ∈ signsT, isPlain c = true := by decide +kernel
  have h2 : ∀ c : Fin 127, isPlain c.val = true → c.val ∈ signsT := by decide +kernel
  rw [Bool.eq_iff_iff, decide_eq_true_eq]
  refine ⟨h1 c, fun h => ?_⟩
  have : c < 127 := by
    unfold isPlain at h
    simp only [Bool.and_eq_true, decide_eq_true_eq] at h
    omega
  exact h2 ⟨c, this⟩ h
theorem all_signs (t : Tx) : allIn t signsT = t.all isPlain := by
  unfold allIn
  congr 1
  funext c
  exact signs_plain c
section
variable {P : Program} {w : World} {K : PySem.W.Frag} {mg : PySem.Str → Option Value} {base : Heap}
def sp__law_letters : Sp := fun vs H Q _ => vs = [] ∧ Q (.str (S letters)) H
theorem ok__law_letters (T : Txt K mg) : Ok P w K mg base CX0 "_law_letters" 1 [] sp__law_letters := by
  obtain ⟨f, fd, hm, F⟩ := T._law_letters
  refine ⟨f, fd, hm, F.kp, F.binds fun _ _ _ _ _ _ us hl => match us, hl with | [], _ => rfl, F.ok sc__law_letters (fun vs H Q E h => ?_) (fun cdv A outer s H vs Q E hr h => ?_)⟩
  · obtain ⟨rfl, _⟩ := h
    rfl
  · obtain ⟨rfl, q⟩ := h
    refine ⟨_, pss_one (ps_ret pe_str), ?_⟩
    exact q
def sp__law_signs : Sp := fun vs H Q _ => vs = [] ∧ Q (.str (S signsT)) H
theorem ok__law_signs (T : Txt K mg) : Ok P w K mg base CX0 "_law_signs" 1 [] sp__law_signs := by
  obtain ⟨f, fd, hm, F⟩ := T._law_signs
  refine ⟨f, fd, hm, F.kp, F.binds fun _ _ _ _ _ _ us hl => match us, hl with | [], _ => rfl, F.ok sc__law_signs (fun vs H Q E h => ?_) (fun cdv A outer s H vs Q E hr h => ?_)⟩
  · obtain ⟨rfl, _⟩ := h
    rfl
  · obtain ⟨rfl, q⟩ := h
    refine ⟨_, pss_cons (ps_set (i := 0) sc__law_signs.nd rfl (Or.inl rfl) pe_str) (pss_one (ps_ret (pe_op op_add_str (pv 0) pe_str))), ?_⟩
    refine ⟨_, rfl, _, _, rfl, rfl, by decide +kernel, ?_⟩
    rw [S_T' " !\"#$&'()*+,-./0123456789:;<=>?@ABCDEFGHIJKLMNOPQRSTUVWXYZ[\\]^_`", add_S _ _ signsT rfl]
    exact q
theorem all_take_succ {t : Tx} {p : Nat → Bool} {i c : Nat} (h : t[i]? = some c) : (t.take (i + 1)).all p = ((t.take i).all p && p c) := by
  rw [List.take_succ, h, List.all_append]
  simp
def sp__law_all_in : Sp := fun vs H Q _ => ∃ t u : Tx, vs = [.str (S t), .str (S u)] ∧ Q (.bl (allIn t u)) H
theorem ok__law_all_in (T : Txt K mg) : Ok P w K mg base CX0 "_law_all_in" 1 ["_law_text", "_law_signs_here"] sp__law_all_in := by
  obtain ⟨f, fd, hm, F⟩ := T._law_all_in
  refine ⟨f, fd, hm, F.kp, F.binds fun _ _ _ _ _ _ us hl => match us, hl with | [_, _], _ => rfl, F.ok sc__law_all_in (fun vs H Q E h => ?_) (fun cdv A outer s H vs Q E hr h => ?_)⟩
  · obtain ⟨t, u, rfl, _⟩ := h
    rfl
  · obtain ⟨t, u, rfl, q⟩ := h
    refine ⟨_, pss_cons (ps_for PassesOwn.never rfl (pi_str (pv 0)) (pg_name (i := 2) sc__law_all_in.nd rfl (Or.inl rfl)) (pss_one (ps_if (pt_cmpR op_notIn_sign (pv 2) (pv 1) (by rfl)) (pss_one (ps_ret pe_bl)) pss_nil))) (pss_one (ps_ret pe_bl)), ?_⟩
    refine ⟨_, rfl, _, rfl, for_it (n := (S t).cps.size) (G := fun _ => True) walk_str (fun i σ H' => ∃ x, σ = [some (.str (S t)), some (.str (S u)), x] ∧ H' = H ∧ (t.take i).all (fun c => decide (c ∈ u)) = true) ⟨_, rfl, rfl, rfl⟩ (fun _ _ _ _ _ => trivial) ?_ ?_⟩
    · rintro i x σ H1 H2 hi ⟨y, rfl, rfl, ha⟩ ⟨rfl, c, hc, rfl⟩
      have hc' : t[i]? = some c := by rw [← hc]; simp [S]
      refine ⟨_, rfl, _, rfl, c, S u, rfl, rfl, _, rfl, ?_⟩
      rw [inS_dec]
      refine ite2 (fun h => ?_) (fun h => ⟨_, rfl, rfl, ?_⟩)
      · have e : allIn t u = false := by
          rw [Bool.eq_false_iff]
          intro z
          unfold allIn at z
          rw [List.all_eq_true] at z
          have := z c (List.mem_of_getElem? hc')
          rw [this] at h
          cases h
        rw [e] at q
        exact q
      · rw [all_take_succ hc', ha]
        simpa using h
    · rintro σ H1 ⟨y, rfl, rfl, ha⟩
      have e : allIn t u = true := by
        rw [show (S t).cps.size = t.length from by simp [S], List.take_length] at ha
        exact ha
      rw [e] at q
      exact q
theorem letPath : S letters ++ PySem.Str.ofString "0123456789/-." = S pathSigns := add_S _ _ _ (by decide +kernel)
theorem letName : S letters ++ PySem.Str.ofString "0123456789-" = S nameSigns := add_S _ _ _ (by decide +kernel)
theorem cut1 {t : Tx} {c : Nat} (h : t.head? = some c) : cutS (S t) none (some 1) = S [c] := by
  rw [show cutS (S t) none (some 1) = S (t.take 1) from cut_to t 1]
  cases t with
  | nil => cases h
  | cons d r =>
    have e : d = c := by simpa using h
    rw [e]
    rfl
theorem dec_one (c : Nat) (s : String) (d : Nat) (h : T s = [d]) : decide (V.str (S [c]) = V.str (PySem.Str.ofString s)) = decide (c = d) := by
  rw [dec_T, h]
  exact decide_eq_decide.mpr (by simp)
theorem isPathT_len {t : Tx} (h : isPathT t = true) : 1 ≤ t.length := by
  unfold isPathT at h
  simp only [Bool.and_eq_true, decide_eq_true_eq] at h
  cases t with
  | nil => exact absurd h.1.1 (by simp)
  | cons d r => simp
def sp__law_is_path : Sp := fun vs H Q _ => ∃ t : Tx, vs = [.str (S t)] ∧ t.length ≤ sizeLine ∧ Q (.bl (isPathT t)) H
theorem ok__law_is_path (T : Txt K mg) : Ok P w K mg base CX0 "_law_is_path" 2 ["_law_text"] sp__law_is_path := by
  obtain ⟨f, fd, hm, F⟩ := T._law_is_path
  refine ⟨f, fd, hm, F.kp, F.binds fun _ _ _ _ _ _ us hl => match us, hl with | [_], _ => rfl, F.ok sc__law_is_path (fun vs H Q E h => ?_) (fun cdv A outer s H vs Q E hr h => ?_)⟩
  · obtain ⟨t, rfl, _⟩ := h
    rfl
  · obtain ⟨t, rfl, hl, q⟩ := h
    refine ⟨_, pss_cons (ps_set (i := 1) sc__law_is_path.nd rfl (Or.inl rfl) (pe_op op_add_str (pe_callO0 (ok__law_letters T) hr rfl) pe_str)) (pss_one (ps_ret (pe_and (pe_chain op_le op_le pe_int (pe_callB call_len_str rfl T.len (by decide +kernel) (pa_cons (pv 0) pa_nil)) pe_int) (pe_and (pe_cmpR op_eq (pe_slice sl_str (pv 0) po_none (po_some pe_int)) pe_str (nomark _)) (pe_one (pe_callO (ok__law_all_in T) hr rfl (pa_cons (pv 0) (pa_cons (pv 1) pa_nil)))))))), ?_⟩
    refine ⟨rfl, _, _, rfl, rfl, by decide +kernel, ?_⟩
    rw [letPath]
    have no : isPathT t = false → Q (.bl false) H := fun e => by rw [← e]; exact q
    refine ⟨_, rfl, _, rfl, hl, _, _, rfl, rfl, _, rfl, ?_⟩
    rw [S_len]
    refine ite2 (fun h1 => ⟨_, _, rfl, rfl, _, rfl, ?_⟩) (fun h1 => ⟨_, rfl, iteF ?_⟩)
    · have h1 : 1 ≤ t.length := by have := of_decide_eq_true h1; omega
      obtain ⟨c, hc⟩ := head_some h1
      refine ite2 (fun h2 => ⟨_, rfl, _, rfl, _, rfl, hl, rfl, ?_⟩) (fun h2 => ?_)
      · have h2 : t.length ≤ 60 := by have := of_decide_eq_true h2; omega
        rw [cut1 hc, dec_one c "/" 47 T_slash]
        refine ⟨_, rfl, ?_⟩
        refine ite2 (fun h3 => ⟨_, rfl, _, rfl, t, pathSigns, rfl, ?_⟩) (fun h3 => ?_)
        · have e : isPathT t = allIn t pathSigns := by
            unfold isPathT
            rw [hc, of_decide_eq_true h3, decide_eq_true h2]
            simp
          rw [e] at q
          exact q
        · refine no ?_
          unfold isPathT
          rw [hc, decide_eq_false (show ¬ some c = some 47 from fun z => nd h3 (by injection z))]
          simp
      · refine no ?_
        unfold isPathT
        rw [decide_eq_false (show ¬ t.length ≤ 60 from by have := nd h2; omega)]
        simp
    · refine no ?_
      rw [Bool.eq_false_iff]
      intro z
      have := isPathT_len z
      exact nd h1 (by omega)
def sp__law_is_name : Sp := fun vs H Q _ => ∃ t : Tx, vs = [.str (S t)] ∧ t.length ≤ sizeLine ∧ Q (.bl (isNameT t)) H
theorem ok__law_is_name (T : Txt K mg) : Ok P w K mg base CX0 "_law_is_name" 2 ["_law_text"] sp__law_is_name := by
  obtain ⟨f, fd, hm, F⟩ := T._law_is_name
  refine ⟨f, fd, hm, F.kp, F.binds fun _ _ _ _ _ _ us hl => match us, hl with | [_], _ => rfl, F.ok sc__law_is_name (fun vs H Q E h => ?_) (fun cdv A outer s H vs Q E hr h => ?_)⟩
  · obtain ⟨t, rfl, _⟩ := h
    rfl
  · obtain ⟨t, rfl, hl, q⟩ := h
    refine ⟨_, pss_cons (ps_if (PW.pt (pw_or (pt_cmpR op_eq (pv 0) pe_str (nomark _)) (pw_or1 (pt_not (pt_chain op_le op_le pe_int (pe_callB call_len_str rfl T.len (by decide +kernel) (pa_cons (pv 0) pa_nil)) pe_int))))) (pss_one (ps_ret pe_bl)) pss_nil) (pss_one (ps_ret (pe_and (pe_cmpR op_in_sign (pe_slice sl_str (pv 0) po_none (po_some pe_int)) (pe_callO0 (ok__law_letters T) hr rfl) (by rfl)) (pe_one (pe_callO (ok__law_all_in T) hr rfl (pa_cons (pv 0) (pa_cons (pe_op op_add_str (pe_callO0 (ok__law_letters T) hr rfl) pe_str) pa_nil))))))), ?_⟩
    have no : isNameT t = false → Q (.bl false) H := fun e => by rw [← e]; exact q
    refine ⟨_, rfl, rfl, _, rfl, ?_⟩
    rw [dec_T]
    refine ite2 (fun h0 => iteT ?_) (fun h0 => ⟨_, rfl, _, rfl, hl, _, _, rfl, rfl, _, rfl, ?_⟩)
    · refine no ?_
      unfold isNameT
      rw [decide_eq_false (show ¬ t ≠ K6.T "length" from fun z => z (of_decide_eq_true h0))]
      simp
    · have h0 := nd h0
      rw [S_len]
      refine ite2 (fun h1 => ⟨_, _, rfl, rfl, _, rfl, ?_⟩) (fun h1 => ⟨_, rfl, iteT ?_⟩)
      · have h1 : 1 ≤ t.length := by have := of_decide_eq_true h1; omega
        obtain ⟨c, hc⟩ := head_some h1
        refine ite2 (fun h2 => ?_) (fun h2 => ?_)
        · refine no ?_
          unfold isNameT
          rw [decide_eq_false (show ¬ t.length ≤ 30 from by have := pn h2; omega)]
          simp
        · have h2 : t.length ≤ 30 := by have := pp h2; omega
          refine ⟨_, rfl, _, rfl, _, rfl, hl, rfl, c, S letters, congrArg V.str (cut1 hc), rfl, _, rfl, ?_⟩
          have e : isNameT t = (decide (c ∈ letters) && allIn t nameSigns) := by
            unfold isNameT
            rw [headIn_head hc, decide_eq_true h1, decide_eq_true h2, decide_eq_true h0]
            simp
          rw [e] at q
          refine ite2 (fun h3 => ⟨_, rfl, rfl, _, _, rfl, rfl, by decide +kernel, t, nameSigns, by rw [letName]; rfl, ?_⟩) (fun h3 => ?_)
          · rw [show decide (c ∈ letters) = true from h3] at q
            exact q
          · rw [show decide (c ∈ letters) = false from eq_false_of_ne_true h3] at q
            exact q
      · refine no ?_
        unfold isNameT
        rw [decide_eq_false (show ¬ 1 ≤ t.length from by have := nd h1; omega)]
        simp
def sp__law_is_value : Sp := fun vs H Q _ => ∃ t : Tx, vs = [.str (S t)] ∧ t.length ≤ sizeLine ∧ Q (.bl (isValueT t)) H
theorem ok__law_is_value (T : Txt K mg) : Ok P w K mg base CX0 "_law_is_value" 2 ["_law_text"] sp__law_is_value := by
  obtain ⟨f, fd, hm, F⟩ := T._law_is_value
  refine ⟨f, fd, hm, F.kp, F.binds fun _ _ _ _ _ _ us hl => match us, hl with | [_], _ => rfl, F.ok sc__law_is_value (fun vs H Q E h => ?_) (fun cdv A outer s H vs Q E hr h => ?_)⟩
  · obtain ⟨t, rfl, _⟩ := h
    rfl
  · obtain ⟨t, rfl, hl, q⟩ := h
    refine ⟨_, pss_one (ps_ret (pe_and (pe_cmpR op_le (pe_callB call_len_str rfl T.len (by decide +kernel) (pa_cons (pv 0) pa_nil)) pe_int (nomark _)) (pe_and (pe_cmpR op_eq (pv 0) (pe_bm PySem.F.plainAttrs_str PySem.F.slot_str_strip PySem.F.type_str_strip mt_stripChars (pv 0) (pa_cons pe_str pa_nil)) (nomark _)) (pe_one (pe_callO (ok__law_all_in T) hr rfl (pa_cons (pv 0) (pa_cons (pe_callO0 (ok__law_signs T) hr rfl) pa_nil))))))), ?_⟩
    unfold isValueT at q
    refine ⟨_, rfl, _, rfl, hl, _, _, rfl, rfl, _, rfl, ?_⟩
    rw [S_len]
    refine ite2 (fun h1 => ⟨_, rfl, _, rfl, rfl, _, _, rfl, rfl, hl, rfl, ?_⟩) (fun h1 => ?_)
    · rw [decide_eq_true (show t.length ≤ 200 from by have := of_decide_eq_true h1; omega)] at q
      rw [strip_S, dec_SS]
      refine ⟨_, rfl, ?_⟩
      refine ite2 (fun h2 => ⟨_, rfl, rfl, t, signsT, rfl, ?_⟩) (fun h2 => ?_)
      · rw [h2, Bool.and_true, Bool.true_and] at q
        rw [all_signs]
        exact q
      · rw [eq_false_of_ne_true h2, Bool.and_false] at q
        exact q
    · rw [decide_eq_false (show ¬ t.length ≤ 200 from by have := nd h1; omega)] at q
      exact q
def sp__law_digits : Sp := fun vs H Q _ => ∃ t : Tx, vs = [.str (S t)] ∧ t.length ≤ sizeLine ∧ Q (.bl (digT t)) H
theorem ok__law_digits (T : Txt K mg) : Ok P w K mg base CX0 "_law_digits" 2 ["_law_text"] sp__law_digits := by
  obtain ⟨f, fd, hm, F⟩ := T._law_digits
  refine ⟨f, fd, hm, F.kp, F.binds fun _ _ _ _ _ _ us hl => match us, hl with | [_], _ => rfl, F.ok sc__law_digits (fun vs H Q E h => ?_) (fun cdv A outer s H vs Q E hr h => ?_)⟩
  · obtain ⟨t, rfl, _⟩ := h
    rfl
  · obtain ⟨t, rfl, hl, q⟩ := h
    refine ⟨_, pss_cons (ps_if (PW.pt (pw_or (pt_not (pt_chain op_le op_le pe_int (pe_callB call_len_str rfl T.len (by decide +kernel) (pa_cons (pv 0) pa_nil)) pe_int)) (pw_or1 (pt_not (pt_val (pe_callO (ok__law_all_in T) hr rfl (pa_cons (pv 0) (pa_cons pe_str pa_nil)))))))) (pss_one (ps_ret pe_bl)) pss_nil) (pss_one (ps_ret (pe_or (pe_cmpR op_eq (pe_callB call_len_str rfl T.len (by decide +kernel) (pa_cons (pv 0) pa_nil)) pe_int (nomark _)) (pe_one (pe_cmpR op_ne (pe_slice sl_str (pv 0) po_none (po_some pe_int)) pe_str (nomark _)))))), ?_⟩
    have no : digT t = false → Q (.bl false) H := fun e => by rw [← e]; exact q
    refine ⟨_, rfl, _, rfl, hl, _, _, rfl, rfl, _, rfl, ?_⟩
    rw [S_len]
    refine ite2 (fun h1 => ⟨_, _, rfl, rfl, _, rfl, ?_⟩) (fun h1 => ⟨_, rfl, iteT (iteT ?_)⟩)
    · have h1 : 1 ≤ t.length := by have := of_decide_eq_true h1; omega
      obtain ⟨c, hc⟩ := head_some h1
      refine ite2 (fun h2 => iteT ?_) (fun h2 => ⟨_, rfl, t, digits, rfl, _, rfl, ?_⟩)
      · refine no ?_
        unfold digT
        rw [decide_eq_false (show ¬ t.length ≤ 6 from by have := pn h2; omega)]
        simp
      · have h2 : t.length ≤ 6 := by have := pp h2; omega
        refine ite2 (fun h3 => ?_) (fun h3 => ?_)
        · refine no ?_
          unfold digT
          rw [show allIn t digits = false from by simpa using h3]
          simp
        · have h3 : allIn t digits = true := by simpa using h3
          have e : digT t = (decide (t.length = 1) || decide (c ≠ 48)) := by
            unfold digT
            rw [hc, decide_eq_true h1, decide_eq_true h2, h3]
            simp
          rw [e] at q
          refine ⟨_, rfl, _, rfl, hl, rfl, _, rfl, ?_⟩
          have e1 : decide (V.int ((S t).length : Nat) = V.int 1) = decide (t.length = 1) := by
            rw [S_len]
            refine decide_eq_decide.mpr ⟨fun z => ?_, fun z => by rw [z]; rfl⟩
            injection z with z
            omega
          rw [e1]
          refine ite2 (fun h4 => ?_) (fun h4 => ⟨_, rfl, _, rfl, _, rfl, hl, rfl, ?_⟩)
          · rw [h4] at q
            exact q
          · rw [eq_false_of_ne_true h4, Bool.false_or] at q
            rw [cut1 hc, dec_one c "0" 48 (by decide +kernel)]
            rw [show (!decide (c = 48)) = decide (c ≠ 48) from by simp]
            exact q
    · refine no ?_
      unfold digT
      rw [decide_eq_false (show ¬ 1 ≤ t.length from by have := nd h1; omega)]
      simp
def sp__law_may : Sp := fun vs H Q _ => ∃ t : Tx, vs = [.str (S t)] ∧ Q (.bl (mayT t)) H
theorem ok__law_may (T : Txt K mg) : Ok P w K mg base CX0 "_law_may" 1 ["_law_start"] sp__law_may := by
  obtain ⟨f, fd, hm, F⟩ := T._law_may
  refine ⟨f, fd, hm, F.kp, F.binds fun _ _ _ _ _ _ us hl => match us, hl with | [_], _ => rfl, F.ok sc__law_may (fun vs H Q E h => ?_) (fun cdv A outer s H vs Q E hr h => ?_)⟩
  · obtain ⟨t, rfl, _⟩ := h
    rfl
  · obtain ⟨t, rfl, q⟩ := h
    refine ⟨_, pss_cons (ps_if (pt_val (pe_bm PySem.F.plainAttrs_str PySem.F.slot_str_startswith PySem.F.type_str_startswith mt_startswith (pv 0) (pa_cons pe_str pa_nil))) (pss_one (ps_ret (pe_bm PySem.F.plainAttrs_str PySem.F.slot_str_startswith PySem.F.type_str_startswith mt_startswith (pv 0) (pa_cons pe_str pa_nil)))) pss_nil) (pss_one (ps_ret (pe_and (pe_cmpR op_ne (pv 0) pe_str (nomark _)) (pe_one (pe_cmpR op_ne (pv 0) pe_str (nomark _)))))), ?_⟩
    unfold mayT at q
    refine ⟨_, rfl, rfl, _, _, rfl, rfl, _, rfl, ?_⟩
    rw [S_T' "ask ", startswith_S]
    refine ite2 (fun h1 => ⟨_, rfl, rfl, _, _, rfl, rfl, ?_⟩) (fun h1 => ⟨_, rfl, rfl, _, rfl, ?_⟩)
    · rw [if_pos h1] at q
      rw [S_T' "ask put ", startswith_S]
      exact q
    · rw [if_neg h1] at q
      rw [dec_T]
      rw [show (!decide (t = K6.T "answer same")) = decide (t ≠ K6.T "answer same") from by simp]
      refine ite2 (fun h2 => ⟨_, rfl, rfl, ?_⟩) (fun h2 => ?_)
      · rw [h2, Bool.true_and] at q
        rw [dec_T, show (!decide (t = K6.T "answer done")) = decide (t ≠ K6.T "answer done") from by simp]
        exact q
      · rw [eq_false_of_ne_true h2, Bool.false_and] at q
        exact q
end
end K6

set_option Elab.async false
set_option linter.all false
set_option maxRecDepth 100000
set_option maxHeartbeats 4000000
/-! KW5: start lines and lines of fields. -/
namespace K6
open PySem PySem.Spec PyProof.Rows L2
theorem T_one (s : String) (c : Nat) (h : T s = [c]) : PySem.Str.ofString s = S [c] := by rw [S_T', h]
theorem colon_S : PySem.Str.ofString ":" = S [58] := T_one ":" 58 (by decide +kernel)
theorem nl_S : PySem.Str.ofString "\n" = S [10] := T_one "\n" 10 (by decide +kernel)
theorem sp_S : PySem.Str.ofString " " = S [32] := T_one " " 32 (by decide +kernel)
theorem dec_emp (t : Tx) : decide (V.str (S t) = V.str (PySem.Str.ofString "")) = decide (t = []) := by rw [dec_T]; rfl
/-- a pair of texts -/
def fldV (f : Fld) : List V := [.str (S f.1), .str (S f.2)]
theorem ixOf_lt {c : Nat} : ∀ {t : Tx} {k : Nat}, ixOf c t = some k → k < t.length
  | [], _, h => by cases h
  | d :: r, k, h => by
    unfold ixOf at h
    split at h
    · injection h with h; subst h; simp
    · cases e : ixOf c r with
      | none => rw [e] at h; cases h
      | some j =>
        rw [e] at h
        have h : j + 1 = k := by simpa using h
        have := ixOf_lt e
        simp only [List.length_cons]
        omega
section
variable {P : Program} {w : World} {K : PySem.W.Frag} {mg : PySem.Str → Option Value} {base : Heap}
def sp_parse_field : Sp := fun vs H Q _ => ∃ t : Tx, vs = [.str (S t)] ∧ t.length ≤ 1000 ∧
  (fieldOf t = none → ∀ H', Same H H' → Q .non H') ∧ (∀ f, fieldOf t = some f → ∀ H' p, Same H H' → H' p = some (.tup (fldV f)) → Q (.ref p) H')
theorem ok_parse_field (T : Txt K mg) : Ok P w K mg base CX0 "parse_field" 4 ["text"] sp_parse_field := by
  obtain ⟨f, fd, hm, F⟩ := T.parse_field
  refine ⟨f, fd, hm, F.kp, F.binds fun _ _ _ _ _ _ us hl => match us, hl with | [_], _ => rfl, F.ok sc_parse_field (fun vs H Q E h => ?_) (fun cdv A outer s H vs Q E hr h => ?_)⟩
  · obtain ⟨t, rfl, _⟩ := h
    rfl
  · obtain ⟨t, rfl, hl, qn, qs⟩ := h
    have hl1 : t.length ≤ sizeLine := Nat.le_trans hl (by decide)
    refine ⟨_, pss_cons (ps_asg (pe_partition (pv 0) pe_str) (pg_tup (by rfl) (pgs_cons (pg_name (i := 3) sc_parse_field.nd rfl (Or.inl rfl)) (pgs_cons (pg_name (i := 4) sc_parse_field.nd rfl (Or.inl rfl)) (pgs_cons (pg_name (i := 5) sc_parse_field.nd rfl (Or.inl rfl)) pgs_nil))))) (pss_cons (ps_if (pt_cmpR op_eq (pv 4) pe_str (nomark _)) (pss_one (ps_ret pe_non)) pss_nil) (pss_cons (ps_set (i := 1) sc_parse_field.nd rfl (Or.inl rfl) (pe_lower (pv 3))) (pss_cons (ps_set (i := 2) sc_parse_field.nd rfl (Or.inl rfl) (pe_bm PySem.F.plainAttrs_str PySem.F.slot_str_strip PySem.F.type_str_strip mt_stripChars (pv 5) (pa_cons pe_str pa_nil))) (pss_cons (ps_if (PW.pt (pw_and (pt_cmpR op_ne (pv 1) (pe_gv T.LENGTH_NAME rfl) (nomark _)) (pw_and1 (pt_not (PW.pt (pw_and (pt_val (pe_callO (ok_is_field_name T) hr rfl (pa_cons (pv 1) pa_nil))) (pw_and1 (pt_val (pe_callO (ok_is_value T) hr rfl (pa_cons (pv 2) pa_nil)))))))))) (pss_one (ps_ret pe_non)) pss_nil) (pss_one (ps_ret (pe_tup (pa_cons (pv 1) (pa_cons (pv 2) pa_nil))))))))), ?_⟩
    refine ⟨_, rfl, ⟨_, rfl⟩, _, _, rfl, rfl, by decide +kernel, by rw [S_len]; exact hl1, fun p hp => ?_⟩
    rw [colon_S, partition_ix]
    refine ⟨p, _, rfl, SqT.of upd_same, rfl, _, _, rfl, _, _, rfl, _, _, rfl, rfl, ?_⟩
    unfold fieldOf at qn qs
    have s1 : Same H (upd H p (HO.tup [V.str (match ixOf 58 t with | some k => (S (t.take k), S [58], S (t.drop (k + 1))) | none => (S t, Str.empty, Str.empty)).1,
      V.str (match ixOf 58 t with | some k => (S (t.take k), S [58], S (t.drop (k + 1))) | none => (S t, Str.empty, Str.empty)).2.1,
      V.str (match ixOf 58 t with | some k => (S (t.take k), S [58], S (t.drop (k + 1))) | none => (S t, Str.empty, Str.empty)).2.2])) := same_new hp
    revert s1
    generalize (upd H p _) = H1
    intro s1
    cases hk : ixOf 58 t with
    | none =>
      rw [hk] at qn
      refine ⟨_, rfl, rfl, _, rfl, ?_⟩
      rw [show (decide (V.str Str.empty = V.str (PySem.Str.ofString ""))) = true from by decide +kernel]
      exact iteT (qn rfl _ s1)
    | some k =>
      rw [hk] at qn qs
      dsimp only at qn qs
      have hkl := ixOf_lt hk
      refine ⟨_, rfl, rfl, _, rfl, ?_⟩
      rw [show (decide (V.str (S [58]) = V.str (PySem.Str.ofString ""))) = false from by decide +kernel]
      refine iteF ?_
      have l1 : (t.take k).length ≤ 1000 := by rw [List.length_take]; omega
      have l2 : (t.drop (k + 1)).length ≤ 1000 := by rw [List.length_drop]; omega
      refine ⟨_, rfl, ⟨_, rfl⟩, _, rfl, rfl, by rw [S_len]; omega, ?_⟩
      rw [low_S]
      have l3 : (lowT (t.take k)).length ≤ sizeLine := Nat.le_trans (lowT_len _) (Nat.le_trans (Nat.mul_le_mul_left 3 l1) (by decide))
      have l4 : (stripT (t.drop (k + 1))).length ≤ sizeLine := Nat.le_trans (stripT_len _) (Nat.le_trans l2 (by decide))
      refine ⟨_, rfl, rfl, _, _, rfl, rfl, by rw [S_len]; exact Nat.le_trans l2 (by decide), ?_⟩
      rw [strip_S]
      generalize lowT (t.take k) = n at l3 qn qs ⊢
      generalize stripT (t.drop (k + 1)) = v at l4 qn qs ⊢
      have fin : ¬ (n ≠ K6.T "length" ∧ ¬ (isNameT n = true ∧ isValueT v = true)) → ∀ H2, Same H H2 → ∀ p, H2 p = none → Q (.ref p) (upd H2 p (.tup (fldV (n, v)))) := fun hn H2 s2 p hp => by
        rw [if_neg hn] at qs
        exact qs _ rfl _ p (s2.trans (same_new hp)) upd_same
      have bad : (n ≠ K6.T "length" ∧ ¬ (isNameT n = true ∧ isValueT v = true)) → ∀ H2, Same H H2 → Q .non H2 := fun hn H2 s2 => by
        rw [if_pos hn] at qn
        exact qn rfl _ s2
      refine ⟨_, rfl, rfl, _, rfl, ?_⟩
      rw [dec_T]
      refine ite2 (fun h1 => ?_) (fun h1 => ?_)
      · have h1 : n ≠ K6.T "length" := pn h1
        refine ⟨_, rfl, n, rfl, l3, fun H2 s2 => ⟨_, rfl, ?_⟩⟩
        refine ite2 (fun h2 => ⟨_, rfl, v, rfl, l4, fun H3 s3 => ⟨_, rfl, ?_⟩⟩) (fun h2 => iteT ?_)
        · refine ite2 (fun h3 => ?_) (fun h3 => ?_)
          · exact bad ⟨h1, fun z => by rw [z.2] at h3; cases h3⟩ _ ((s1.trans s2).trans s3)
          · have h3 : isValueT v = true := by simpa using h3
            exact ⟨_, rfl, _, rfl, by show 2 ≤ sizeLine; decide, fun q hq => fin (fun z => z.2 ⟨h2, h3⟩) _ ((s1.trans s2).trans s3) q hq⟩
        · exact bad ⟨h1, fun z => h2 z.1⟩ _ (s1.trans s2)
      · have h1 : n = K6.T "length" := pp h1
        exact ⟨_, rfl, _, rfl, by show 2 ≤ sizeLine; decide, fun q hq => fin (fun z => z.1 h1) _ s1 q hq⟩
def lineV : LL → V
  | .inc => .non
  | .bad => .bl false
  | .ln l => .str (S l)
def sp__law_line : Sp := fun vs H Q _ => ∃ (t : Tx) (a : Nat), vs = [.str (S t), .int a] ∧ t.length ≤ sizeLine ∧ a ≤ t.length ∧ Q (lineV (lawLine t a)) H
theorem ok__law_line (T : Txt K mg) : Ok P w K mg base CX0 "_law_line" 1 ["_law_text", "_law_at"] sp__law_line := by
  obtain ⟨f, fd, hm, F⟩ := T._law_line
  refine ⟨f, fd, hm, F.kp, F.binds fun _ _ _ _ _ _ us hl => match us, hl with | [_, _], _ => rfl, F.ok sc__law_line (fun vs H Q E h => ?_) (fun cdv A outer s H vs Q E hr h => ?_)⟩
  · obtain ⟨t, a, rfl, _⟩ := h
    rfl
  · obtain ⟨t, a, rfl, hl, ha, q⟩ := h
    refine ⟨_, pss_cons (ps_set (i := 2) sc__law_line.nd rfl (Or.inl rfl) (pe_bm PySem.F.plainAttrs_str PySem.F.slot_str_find PySem.F.type_str_find mt_find4 (pv 0) (pa_cons pe_str (pa_cons (pv 1) (pa_cons (pe_op op_add (pv 1) pe_int) pa_nil))))) (pss_cons (ps_if (pt_cmpR op_ge (pv 2) pe_int (nomark _)) (pss_one (ps_ret (pe_slice sl_str (pv 0) (po_some (pv 1)) (po_some (pv 2))))) pss_nil) (pss_cons (ps_if (pt_cmpR op_gt (pe_op op_sub (pe_callB call_len_str rfl T.len (by decide +kernel) (pa_cons (pv 0) pa_nil)) (pv 1)) pe_int (nomark _)) (pss_one (ps_ret pe_bl)) pss_nil) (pss_one (ps_ret pe_non)))), ?_⟩
    unfold lawLine lineOf at q
    refine ⟨_, rfl, rfl, _, rfl, _, rfl, _, _, rfl, rfl, _, _, _, _, rfl, rfl, ?_⟩
    rw [nl_S, findIn_nl t a ha]
    cases hk : nlAt ((t.drop a).take 301) with
    | some k =>
      rw [hk] at q
      refine ⟨_, rfl, _, _, rfl, rfl, _, rfl, ?_⟩
      rw [decide_eq_true (show (0 : Int) ≤ ((a + k : Nat) : Int) from by omega)]
      refine iteT ⟨_, rfl, _, rfl, _, rfl, _, rfl, _, rfl, _, rfl, hl, ?_⟩
      rw [cut_mid t a (a + k), Nat.add_sub_cancel_left]
      exact q
    | none =>
      rw [hk] at q
      refine ⟨_, rfl, _, _, rfl, rfl, _, rfl, ?_⟩
      refine iteF ⟨_, rfl, _, rfl, hl, _, rfl, _, _, rfl, rfl, _, _, rfl, rfl, _, rfl, ?_⟩
      rw [S_len]
      rw [List.length_drop] at q
      refine ite2 (fun h => ?_) (fun h => ?_)
      · have h := of_decide_eq_true h
        dsimp only at q
        rw [if_pos (by omega)] at q
        exact q
      · have h := nd h
        dsimp only at q
        rw [if_neg (by omega)] at q
        exact q
theorem find_colon (t : Tx) : Txt.find (S t) (PySem.Str.ofString ":") = (match ixOf 58 t with | some k => (k : Int) | none => -1) := by rw [colon_S]; exact find_ix t 58
def fkV : FK → V
  | .character => str "character"
  | .long => str "long"
  | .start => str "start"
  | .field => str "field"
  | .length => str "length"
  | .many => str "many"
  | .chunk => str "chunk"
  | .cut => str "cut"
def lrV : LR → V
  | .bad k => fkV k
  | _ => .non
def frV : Option Tx → V
  | none => .non
  | some v => .str (S v)
theorem dec_non {x : PySem.Str} : decide (V.str x = V.non) = false := decide_eq_false (by intro z; cases z)
theorem dec_nonI {i : Int} : decide (V.int i = V.non) = false := decide_eq_false (by intro z; cases z)
def sp__law_line_fault : Sp := fun vs H Q _ => ∃ (l st : Tx) (n : Nat) (fr : Option Tx) (tr : Bool), vs = [.str (S l), .str (S st), .int n, frV fr, .bl tr] ∧ l.length ≤ 1000 ∧ Q (lrV (lineResT (mayT st) tr fr n l)) H
theorem ok__law_line_fault (T : Txt K mg) : Ok P w K mg base CX0 "_law_line_fault" 3 ["_law_line_here", "_law_start", "_law_many", "_law_frame", "_law_trailer"] sp__law_line_fault := by
  obtain ⟨f, fd, hm, F⟩ := T._law_line_fault
  refine ⟨f, fd, hm, F.kp, F.binds fun _ _ _ _ _ _ us hl => match us, hl with | [_, _, _, _, _], _ => rfl, F.ok sc__law_line_fault (fun vs H Q E h => ?_) (fun cdv A outer s H vs Q E hr h => ?_)⟩
  · obtain ⟨l, st, n, fr, tr, rfl, _⟩ := h
    rfl
  · obtain ⟨l, st, n, fr, tr, rfl, hl, q⟩ := h
    have hl1 : l.length ≤ sizeLine := Nat.le_trans hl (by decide)
    refine ⟨_, pss_cons (ps_set (i := 5) sc__law_line_fault.nd rfl (Or.inl rfl) (pe_bm PySem.F.plainAttrs_str PySem.F.slot_str_find PySem.F.type_str_find mt_find (pv 0) (pa_cons pe_str pa_nil))) (pss_cons (ps_if (pt_cmpR op_lt (pv 5) pe_int (nomark _)) (pss_one (ps_ret pe_str)) pss_nil) (pss_cons (ps_set (i := 6) sc__law_line_fault.nd rfl (Or.inl rfl) (pe_lower (pe_slice sl_str (pv 0) po_none (po_some (pv 5))))) (pss_cons (ps_set (i := 7) sc__law_line_fault.nd rfl (Or.inl rfl) (pe_bm PySem.F.plainAttrs_str PySem.F.slot_str_strip PySem.F.type_str_strip mt_stripChars (pe_slice sl_str (pv 0) (po_some (pe_op op_add (pv 5) pe_int)) po_none) (pa_cons pe_str pa_nil))) (pss_cons (ps_if (pt_cmpR op_eq (pv 6) pe_str (nomark _)) (pss_cons (ps_if (PW.pt (pw_or (pt_val (pv 4)) (pw_or (pt_cmpR op_notN (pv 3) pe_non (nomark _)) (pw_or1 (PW.pt (pw_and (pt_cmpR op_ne (pv 7) pe_str (nomark _)) (pw_and1 (pt_not (pt_val (pe_callO (ok__law_digits T) hr rfl (pa_cons (pv 7) pa_nil))))))))))) (pss_one (ps_ret pe_str)) pss_nil) (pss_cons (ps_if (PW.pt (pw_and (pt_not (pt_val (pe_callO (ok__law_may T) hr rfl (pa_cons (pv 1) pa_nil)))) (pw_and1 (pt_cmpR op_ne (pv 7) pe_str (nomark _))))) (pss_one (ps_ret pe_str)) pss_nil) (pss_cons (ps_if (PW.pt (pw_and (pt_cmpR op_ne (pv 7) pe_str (nomark _)) (pw_and1 (pt_cmpR op_gt (pe_callTy call_int_str rfl T.int (by decide +kernel) (pa_cons (pv 7) pa_nil)) pe_int (nomark _))))) (pss_one (ps_ret pe_str)) pss_nil) (pss_one (ps_ret pe_non))))) pss_nil) (pss_cons (ps_if (PW.pt (pw_or (pt_not (pt_val (pe_callO (ok__law_is_name T) hr rfl (pa_cons (pv 6) pa_nil)))) (pw_or1 (pt_not (pt_val (pe_callO (ok__law_is_value T) hr rfl (pa_cons (pv 7) pa_nil))))))) (pss_one (ps_ret pe_str)) pss_nil) (pss_cons (ps_if (pt_cmpR op_ge (pv 2) pe_int (nomark _)) (pss_one (ps_ret pe_str)) pss_nil) (pss_one (ps_ret pe_non)))))))), ?_⟩
    refine ⟨_, rfl, rfl, _, _, rfl, rfl, _, rfl, _, _, rfl, rfl, _, rfl, ?_⟩
    rw [find_colon]
    unfold lineResT fieldOf at q
    cases hk : ixOf 58 l with
    | none =>
      rw [hk] at q
      exact iteT q
    | some k =>
      rw [hk] at q
      dsimp only at q ⊢
      have hkl := ixOf_lt hk
      rw [decide_eq_false (show ¬ (k : Int) < 0 from by omega)]
      have l1 : (l.take k).length ≤ 1000 := by rw [List.length_take]; omega
      have l2 : (l.drop (k + 1)).length ≤ 1000 := by rw [List.length_drop]; omega
      refine iteF ⟨_, rfl, _, rfl, _, rfl, _, rfl, hl1, ⟨_, rfl⟩, _, rfl, rfl, ?_⟩
      rw [cut_to]
      refine ⟨by rw [S_len]; omega, ?_⟩
      rw [low_S]
      refine ⟨_, rfl, _, rfl, _, _, rfl, rfl, _, rfl, _, rfl, hl1, rfl, _, _, rfl, rfl, ?_⟩
      rw [show cutS (S l) (some ((k : Int) + 1)) none = S (l.drop (k + 1)) from cut_from l (k + 1)]
      refine ⟨by rw [S_len]; exact Nat.le_trans l2 (by decide), ?_⟩
      rw [strip_S]
      have l3 : (lowT (l.take k)).length ≤ sizeLine := Nat.le_trans (lowT_len _) (Nat.le_trans (Nat.mul_le_mul_left 3 l1) (by decide))
      have l4 : (stripT (l.drop (k + 1))).length ≤ sizeLine := Nat.le_trans (stripT_len _) (Nat.le_trans l2 (by decide))
      generalize lowT (l.take k) = nm at l3 q ⊢
      generalize stripT (l.drop (k + 1)) = v at l4 q ⊢
      refine ⟨_, rfl, rfl, _, rfl, ?_⟩
      rw [dec_T]
      refine ite2 (fun h1 => ?_) (fun h1 => ?_)
      · have h1 : nm = K6.T "length" := of_decide_eq_true h1
        rw [if_neg (fun z => z.1 h1)] at q
        dsimp only at q
        rw [if_pos h1] at q
        have ok : ∀ (D : Ends) (σ : L2.St), (¬ (mayT st = false ∧ v ≠ K6.T "0") → ¬ (tr = true ∨ fr ≠ none ∨ (v ≠ chunksT ∧ numT v = none)) → Q (if 100000 < (numT v).getD 0 then fkV .long else .non) H) := fun _ _ h2 h3 => by
          unfold frameRes at q
          rw [if_neg h3, if_neg h2] at q
          by_cases h4 : 100000 < (numT v).getD 0
          · rw [if_pos h4] at q ⊢
            exact q
          · rw [if_neg h4] at q ⊢
            exact q
        have bad : (tr = true ∨ fr ≠ none ∨ (v ≠ chunksT ∧ numT v = none)) ∨ (mayT st = false ∧ v ≠ K6.T "0") → Q (fkV .length) H := fun h => by
          unfold frameRes at q
          rcases h with h | h
          · rw [if_pos h] at q
            exact q
          · by_cases h3 : tr = true ∨ fr ≠ none ∨ (v ≠ chunksT ∧ numT v = none)
            · rw [if_pos h3] at q
              exact q
            · rw [if_neg h3, if_pos h] at q
              exact q
        cases tr with
        | true => exact ⟨_, rfl, _, rfl, iteT (iteT (bad (.inl (.inl rfl))))⟩
        | false =>
          refine ⟨_, rfl, _, rfl, iteF ⟨_, rfl, rfl, _, rfl, ?_⟩⟩
          cases fr with
          | some f => exact iteT (iteT (bad (.inl (.inr (.inl (by simp))))))
          | none =>
            refine iteF ⟨_, rfl, rfl, _, rfl, ?_⟩
            rw [dec_T]
            have rest : ¬ (v ≠ chunksT ∧ numT v = none) → tSeq (tIfS (tAnd (tNot (tB (tCall sp__law_may [] E0 (tCons (tVar 1) tNil)))) (tTest (tOp rNe (tVar 7) (tC (V.str (PySem.Str.ofString "0")))))) (tRet (tC (V.str (PySem.Str.ofString "length")))) tNext)
                (tSeq (tIfS (tAnd (tTest (tOp rNe (tVar 7) (tC (V.str (PySem.Str.ofString "chunks"))))) (tTest (tOp (rI0 fun i j => V.bl (decide (j < i))) (tCB (fun xs H Q => ∃ a n, xs = [V.str a] ∧ PySem.intText? a = some n ∧ a.length ≤ 640 ∧ Q (V.int n) H) (tCons (tVar 7) tNil)) (tC (V.int 100000))))) (tRet (tC (V.str (PySem.Str.ofString "long")))) tNext) (tRet (tC V.non)))
                { nx := fun _ _ => False, rt := Q } [some (.str (S l)), some (.str (S st)), some (.int n), some .non, some (.bl false), some (.int k), some (.str (S nm)), some (.str (S v))] H := fun h3 => by
              refine ⟨_, rfl, st, rfl, _, rfl, ?_⟩
              have n3 : ¬ (false = true ∨ (none : Option Tx) ≠ none ∨ (v ≠ chunksT ∧ numT v = none)) := fun z => by
                rcases z with z | z | z
                · cases z
                · exact z rfl
                · exact h3 z
              have fin : ¬ (mayT st = false ∧ v ≠ K6.T "0") → tSeq (tIfS (tAnd (tTest (tOp rNe (tVar 7) (tC (V.str (PySem.Str.ofString "chunks"))))) (tTest (tOp (rI0 fun i j => V.bl (decide (j < i))) (tCB (fun xs H Q => ∃ a n, xs = [V.str a] ∧ PySem.intText? a = some n ∧ a.length ≤ 640 ∧ Q (V.int n) H) (tCons (tVar 7) tNil)) (tC (V.int 100000))))) (tRet (tC (V.str (PySem.Str.ofString "long")))) tNext) (tRet (tC V.non))
                { nx := fun _ _ => False, rt := Q } [some (.str (S l)), some (.str (S st)), some (.int n), some .non, some (.bl false), some (.int k), some (.str (S nm)), some (.str (S v))] H := fun h5 => by
                have ok := ok ⟨fun _ _ => False, Q, fun _ _ => False, fun _ _ => False⟩ [] h5 n3
                refine ⟨_, rfl, rfl, _, rfl, ?_⟩
                rw [dec_T]
                refine ite2 (fun h6 => ?_) (fun h6 => ?_)
                · have h6 : v ≠ chunksT := pn h6
                  cases hn : numT v with
                  | none => exact absurd ⟨h6, hn⟩ h3
                  | some m =>
                    rw [hn] at ok
                    have := numT_len hn
                    refine ⟨_, rfl, _, _, rfl, numT_int hn, by rw [S_len]; omega, _, _, rfl, rfl, _, rfl, ?_⟩
                    refine ite2 (fun h7 => ?_) (fun h7 => ?_)
                    · have h7 := of_decide_eq_true h7
                      rw [if_pos (show 100000 < (some m).getD 0 from by show 100000 < m; omega)] at ok
                      exact ok
                    · have h7 := nd h7
                      rw [if_neg (show ¬ 100000 < (some m).getD 0 from by show ¬ 100000 < m; omega)] at ok
                      exact ok
                · have h6 : v = chunksT := pp h6
                  have hn : numT v = none := by rw [h6]; decide +kernel
                  rw [hn, if_neg (show ¬ 100000 < (none : Option Nat).getD 0 from by decide)] at ok
                  exact ok
              cases hm : mayT st with
              | true => exact iteF (fin fun z => by rw [hm] at z; cases z.1)
              | false =>
                refine iteT ⟨_, rfl, rfl, _, rfl, ?_⟩
                rw [dec_T]
                refine ite2 (fun h5 => ?_) (fun h5 => ?_)
                · exact bad (.inr ⟨hm, pn h5⟩)
                · exact fin fun z => z.2 (pp h5)
            refine ite2 (fun h2 => ⟨_, rfl, v, rfl, l4, _, rfl, ?_⟩) (fun h2 => ?_)
            · have h2 : v ≠ chunksT := pn h2
              refine ite2 (fun h3 => ?_) (fun h3 => ?_)
              · have h3 : digT v = false := by simpa using h3
                exact bad (.inl (.inr (.inr ⟨h2, by unfold numT; rw [h3]; rfl⟩)))
              · have h3 : digT v = true := by simpa using h3
                exact rest fun z => by
                  have := z.2
                  unfold numT at this
                  rw [h3] at this
                  cases this
            · have h2 : v = chunksT := pp h2
              exact rest fun z => z.1 h2
      · have h1 := nd h1
        refine ⟨_, rfl, nm, rfl, l3, _, rfl, ?_⟩
        have bad : ¬ (isNameT nm = true ∧ isValueT v = true) → Q (fkV .field) H := fun z => by
          rw [if_pos ⟨h1, z⟩] at q
          exact q
        refine ite2 (fun h2 => ?_) (fun h2 => ⟨_, rfl, v, rfl, l4, _, rfl, ?_⟩)
        · exact bad fun z => by rw [z.1] at h2; cases h2
        · have h2 : isNameT nm = true := by simpa using h2
          refine ite2 (fun h3 => ?_) (fun h3 => ?_)
          · exact bad fun z => by rw [z.2] at h3; cases h3
          · have h3 : isValueT v = true := by simpa using h3
            rw [if_neg (fun z => z.2 ⟨h2, h3⟩)] at q
            dsimp only at q
            rw [if_neg h1] at q
            refine ⟨_, rfl, _, _, rfl, rfl, _, rfl, ?_⟩
            refine ite2 (fun h4 => ?_) (fun h4 => ?_)
            · have h4 := of_decide_eq_true h4
              rw [if_pos (by omega)] at q
              exact q
            · have h4 := nd h4
              rw [if_neg (by omega)] at q
              exact q
end
end K6

set_option Elab.async false
set_option linter.all false
set_option maxRecDepth 100000
set_option maxHeartbeats 4000000
/-! KW6: start lines. -/
namespace K6
open PySem PySem.Spec PyProof.Rows L2
theorem inV_str (m : Tx) (l : List Tx) : inV (sV m) (l.map sV) = decide (m ∈ l) := by
  rw [Bool.eq_iff_iff, decide_eq_true_eq]
  unfold inV
  rw [List.any_eq_true]
  constructor
  · rintro ⟨x, hx, he⟩
    obtain ⟨t, ht, rfl⟩ := List.mem_map.mp hx
    have he : (S t == S m) = true := he
    have := S_inj (eq_of_beq he)
    rw [← this]; exact ht
  · intro h
    exact ⟨sV m, List.mem_map.mpr ⟨m, h, rfl⟩, by show (S m == S m) = true; simp⟩
theorem flat_sV (l : List Tx) : (l.map sV).all flatV = true := by
  rw [List.all_eq_true]
  intro x hx
  obtain ⟨t, ht, rfl⟩ := List.mem_map.mp hx
  rfl
def sideV (b : Bool) : V := str (if b then "answers" else "asks")
def startArgs (b : Bool) (t : Tx) : List Tx := match b, words t with
  | false, [_, m, p] => [m, p]
  | true, [_, s] => [s]
  | _, _ => []
theorem lenD (n : Nat) (m : Nat) : decide (V.int (n : Nat) = V.int (m : Nat)) = decide (n = m) := by
  refine decide_eq_decide.mpr ⟨fun z => ?_, fun z => by rw [z]⟩
  injection z with z
  omega
section
variable {P : Program} {w : World} {K : PySem.W.Frag} {mg : PySem.Str → Option Value} {base : Heap}
def sp__law_statuses : Sp := fun vs H Q _ => vs = [] ∧ ∀ H' a, Same H H' → H a = none → H' a = some (.lst (statusesT.map sV)) → Q (.ref a) H'
theorem ok__law_statuses (T : Txt K mg) : Ok P w K mg base CX0 "_law_statuses" 1 [] sp__law_statuses := by
  obtain ⟨f, fd, hm, F⟩ := T._law_statuses
  refine ⟨f, fd, hm, F.kp, F.binds fun _ _ _ _ _ _ us hl => match us, hl with | [], _ => rfl, F.ok sc__law_statuses (fun vs H Q E h => ?_) (fun cdv A outer s H vs Q E hr h => ?_)⟩
  · obtain ⟨rfl, _⟩ := h
    rfl
  · obtain ⟨rfl, q⟩ := h
    refine ⟨_, pss_one (ps_ret (pe_lst (pa_cons pe_str (pa_cons pe_str (pa_cons pe_str (pa_cons pe_str (pa_cons pe_str (pa_cons pe_str (pa_cons pe_str (pa_cons pe_str (pa_cons pe_str pa_nil))))))))))), ?_⟩
    exact ⟨by show 9 ≤ sizeLine; decide, fun l hl => q _ _ (same_new hl) hl upd_same⟩
def sp__law_starts : Sp := fun vs H Q _ => ∃ (b : Bool) (t : Tx), vs = [sideV b, .str (S t)] ∧ t.length ≤ 1000 ∧ ∀ H', Same H H' → Q (.bl (startOkT b t)) H'
theorem ok__law_starts (T : Txt K mg) : Ok P w K mg base CX0 "_law_starts" 3 ["_law_side", "_law_line_here"] sp__law_starts := by
  obtain ⟨f, fd, hm, F⟩ := T._law_starts
  refine ⟨f, fd, hm, F.kp, F.binds fun _ _ _ _ _ _ us hl => match us, hl with | [_, _], _ => rfl, F.ok sc__law_starts (fun vs H Q E h => ?_) (fun cdv A outer s H vs Q E hr h => ?_)⟩
  · obtain ⟨b, t, rfl, _⟩ := h
    rfl
  · obtain ⟨b, t, rfl, hl, q⟩ := h
    refine ⟨_, pss_cons (ps_set (i := 2) sc__law_starts.nd rfl (Or.inl rfl) (pe_split (pv 1) pe_str)) (pss_cons (ps_if (pt_cmpR op_eq (pv 0) pe_str (nomark _)) (pss_one (ps_ret (pe_and (pe_cmpR op_eq (pe_callB call_len_seq rfl T.len (by decide +kernel) (pa_cons (pv 2) pa_nil)) pe_int (nomark _)) (pe_and (pe_cmpR op_eq (pe_ix ix_list (pv 2) pe_int (fun _ _ => rfl)) pe_str (nomark _)) (pe_one (pe_cmpR op_in_seq (pe_ix ix_list (pv 2) pe_int (fun _ _ => rfl)) (pe_callO0 (ok__law_statuses T) hr rfl) (by rfl))))))) pss_nil) (pss_cons (ps_if (PW.pt (pw_or (pt_cmpR op_ne (pe_callB call_len_seq rfl T.len (by decide +kernel) (pa_cons (pv 2) pa_nil)) pe_int (nomark _)) (pw_or (pt_cmpR op_ne (pe_ix ix_list (pv 2) pe_int (fun _ _ => rfl)) pe_str (nomark _)) (pw_or1 (pt_cmpR op_notIn_seq (pe_ix ix_list (pv 2) pe_int (fun _ _ => rfl)) (pe_lst (pa_cons pe_str (pa_cons pe_str (pa_cons pe_str pa_nil)))) (by rfl)))))) (pss_one (ps_ret pe_bl)) pss_nil) (pss_one (ps_ret (pe_callO (ok__law_is_path T) hr rfl (pa_cons (pe_ix ix_list (pv 2) pe_int (fun _ _ => rfl)) pa_nil)))))), ?_⟩
    refine ⟨_, rfl, ⟨_, rfl⟩, _, _, rfl, rfl, by decide +kernel, by rw [S_len]; exact Nat.le_trans (Nat.add_le_add_right hl 2) (by decide), fun p hp => ?_⟩
    rw [sp_S, split_words, List.map_map]
    unfold startOkT at q
    have hin : ∀ x ∈ words t, x.length ≤ t.length := fun x h => words_in t h
    have s1 : Same H (upd H p (.lst ((words t).map (V.str ∘ S)))) := same_new hp
    have l1 : (upd H p (.lst ((words t).map (V.str ∘ S)))) p = some (.lst ((words t).map (V.str ∘ S))) := upd_same
    revert s1 l1
    generalize (upd H p (.lst ((words t).map (V.str ∘ S)))) = H1
    generalize words t = ws at q hin ⊢
    intro s1 l1
    cases b with
    | true =>
      refine ⟨_, rfl, rfl, _, rfl, iteT ?_⟩
      refine ⟨_, rfl, p, _, rfl, .inl (SqL.of l1), rfl, ?_⟩
      rw [List.length_map, show (V.int 2) = V.int ((2 : Nat) : Int) from rfl, lenD]
      refine ⟨_, rfl, ?_⟩
      match ws, hin, q, l1 with
      | [], _, q, l1 => exact q _ s1
      | [_], _, q, l1 => exact q _ s1
      | _ :: _ :: _ :: _, _, q, l1 => 
        rw [decide_eq_false (by simp)]
        exact q _ s1
      | [a, s], hin, q, l1 =>
        refine iteT ⟨_, rfl, p, _, _, _, rfl, rfl, SqL.of l1, atI_nat (j := 0) rfl, rfl, _, rfl, ?_⟩
        rw [show (V.str ∘ S) a = V.str (S a) from rfl, dec_T]
        refine ite2 (fun h1 => ?_) (fun h1 => ?_)
        · refine ⟨_, rfl, p, _, _, _, rfl, rfl, SqL.of l1, atI_nat (j := 1) rfl, rfl, fun H2 b s2 _ hb => ⟨_, _, rfl, .inl (SqL.of hb), rfl, flat_sV _, ?_⟩⟩
          rw [show (V.str ∘ S) s = sV s from rfl, inV_str]
          dsimp only at q
          rw [h1, Bool.true_and] at q
          exact q _ (s1.trans s2)
        · dsimp only at q
          rw [eq_false_of_ne_true h1, Bool.false_and] at q
          exact q _ s1
    | false =>
      refine ⟨_, rfl, rfl, _, rfl, iteF ?_⟩
      refine ⟨_, rfl, p, _, rfl, .inl (SqL.of l1), rfl, _, rfl, ?_⟩
      rw [List.length_map, show (V.int 3) = V.int ((3 : Nat) : Int) from rfl, lenD]
      match ws, hin, q, l1 with
      | [], _, q, l1 => exact iteT (iteT (q _ s1))
      | [_], _, q, l1 => exact iteT (iteT (q _ s1))
      | [_, _], _, q, l1 => exact iteT (iteT (q _ s1))
      | _ :: _ :: _ :: _ :: _, _, q, l1 => 
        rw [decide_eq_false (by simp)]
        exact iteT (iteT (q _ s1))
      | [a, m, pp'], hin, q, l1 =>
        refine iteF ⟨_, rfl, p, _, _, _, rfl, rfl, SqL.of l1, atI_nat (j := 0) rfl, rfl, _, rfl, ?_⟩
        rw [show (V.str ∘ S) a = V.str (S a) from rfl, dec_T]
        dsimp only at q
        refine ite2 (fun h1 => iteT ?_) (fun h1 => ?_)
        · rw [decide_eq_false (pn h1)] at q
          exact q _ s1
        · rw [decide_eq_true (pp h1), Bool.true_and] at q
          refine ⟨_, rfl, p, _, _, _, rfl, rfl, SqL.of l1, atI_nat (j := 1) rfl, by show 3 ≤ sizeLine; decide, fun l hl' => ⟨_, _, rfl, .inl (SqL.of upd_same), rfl, rfl, _, rfl, ?_⟩⟩
          rw [show (V.str ∘ S) m = sV m from rfl, show [V.str (PySem.Str.ofString "get"), V.str (PySem.Str.ofString "put"), V.str (PySem.Str.ofString "delete")] = methodsT.map sV from rfl, inV_str]
          refine ite2 (fun h2 => ?_) (fun h2 => ?_)
          · rw [decide_eq_false (pn h2)] at q
            exact q _ (s1.trans (same_new hl'))
          · rw [decide_eq_true (pp h2), Bool.true_and] at q
            refine ⟨_, rfl, p, _, _, _, rfl, rfl, SqL.of (same_new hl' _ _ l1), atI_nat (j := 2) rfl, pp', rfl, Nat.le_trans (hin _ (by simp)) (Nat.le_trans hl (by decide)), ?_⟩
            exact q _ (s1.trans (same_new hl'))
def sp_parse_start : Sp := fun vs H Q _ => ∃ (b : Bool) (t : Tx), vs = [sideV b, .str (S t)] ∧ t.length ≤ 1000 ∧
  (startOkT b t = false → ∀ H', Same H H' → Q .non H') ∧ (startOkT b t = true → ∀ H' p, Same H H' → H' p = some (.tup ((startArgs b t).map sV)) → Q (.ref p) H')
theorem ok_parse_start (T : Txt K mg) : Ok P w K mg base CX0 "parse_start" 3 ["side", "text"] sp_parse_start := by
  obtain ⟨f, fd, hm, F⟩ := T.parse_start
  refine ⟨f, fd, hm, F.kp, F.binds fun _ _ _ _ _ _ us hl => match us, hl with | [_, _], _ => rfl, F.ok sc_parse_start (fun vs H Q E h => ?_) (fun cdv A outer s H vs Q E hr h => ?_)⟩
  · obtain ⟨b, t, rfl, _⟩ := h
    rfl
  · obtain ⟨b, t, rfl, hl, qn, qs⟩ := h
    obtain ⟨aMe, hMe, sMe⟩ := T.METHODS
    obtain ⟨aSt, hSt, sSt⟩ := T.STATUSES
    refine ⟨_, pss_cons (ps_set (i := 2) sc_parse_start.nd rfl (Or.inl rfl) (pe_split (pv 1) pe_str)) (pss_cons (ps_if (pt_cmpR op_eq (pv 0) pe_str (nomark _)) (pss_cons (ps_if (PW.pt (pw_or (pt_cmpR op_ne (pe_callB call_len_seq rfl T.len (by decide +kernel) (pa_cons (pv 2) pa_nil)) pe_int (nomark _)) (pw_or1 (pt_cmpR op_ne (pe_ix ix_list (pv 2) pe_int (fun _ _ => rfl)) pe_str (nomark _))))) (pss_one (ps_ret pe_non)) pss_nil) (pss_cons (ps_if (PW.pt (pw_or (pt_cmpR op_notIn_seq (pe_ix ix_list (pv 2) pe_int (fun _ _ => rfl)) (pe_cc hMe rfl) (by rfl)) (pw_or1 (pt_not (pt_val (pe_callO (ok_is_path T) hr rfl (pa_cons (pe_ix ix_list (pv 2) pe_int (fun _ _ => rfl)) pa_nil))))))) (pss_one (ps_ret pe_non)) pss_nil) (pss_one (ps_ret (pe_tup (pa_cons (pe_ix ix_list (pv 2) pe_int (fun _ _ => rfl)) (pa_cons (pe_ix ix_list (pv 2) pe_int (fun _ _ => rfl)) pa_nil))))))) pss_nil) (pss_cons (ps_if (PW.pt (pw_or (pt_cmpR op_ne (pe_callB call_len_seq rfl T.len (by decide +kernel) (pa_cons (pv 2) pa_nil)) pe_int (nomark _)) (pw_or (pt_cmpR op_ne (pe_ix ix_list (pv 2) pe_int (fun _ _ => rfl)) pe_str (nomark _)) (pw_or1 (pt_cmpR op_notIn_seq (pe_ix ix_list (pv 2) pe_int (fun _ _ => rfl)) (pe_cc hSt rfl) (by rfl)))))) (pss_one (ps_ret pe_non)) pss_nil) (pss_one (ps_ret (pe_tup (pa_cons (pe_ix ix_list (pv 2) pe_int (fun _ _ => rfl)) pa_nil)))))), ?_⟩
    refine ⟨_, rfl, ⟨_, rfl⟩, _, _, rfl, rfl, by decide +kernel, by rw [S_len]; exact Nat.le_trans (Nat.add_le_add_right hl 2) (by decide), fun p hp => ?_⟩
    rw [sp_S, split_words, List.map_map]
    unfold startOkT at qn qs
    unfold startArgs at qs
    have hin : ∀ x ∈ words t, x.length ≤ t.length := fun x h => words_in t h
    have s1 : Same H (upd H p (.lst ((words t).map (V.str ∘ S)))) := same_new hp
    have l1 : (upd H p (.lst ((words t).map (V.str ∘ S)))) p = some (.lst ((words t).map (V.str ∘ S))) := upd_same
    revert s1 l1
    generalize (upd H p (.lst ((words t).map (V.str ∘ S)))) = H1
    generalize words t = ws at qn qs hin ⊢
    intro s1 l1
    cases b with
    | true =>
      refine ⟨_, rfl, rfl, _, rfl, iteF ?_⟩
      refine ⟨_, rfl, p, _, rfl, .inl (SqL.of l1), rfl, _, rfl, ?_⟩
      rw [List.length_map, show (V.int 2) = V.int ((2 : Nat) : Int) from rfl, lenD]
      match ws, hin, qn, qs, l1 with
      | [], _, qn, qs, l1 => exact iteT (iteT (qn rfl _ s1))
      | [_], _, qn, qs, l1 => exact iteT (iteT (qn rfl _ s1))
      | _ :: _ :: _ :: _, _, qn, qs, l1 => 
        rw [decide_eq_false (by simp)]
        exact iteT (iteT (qn rfl _ s1))
      | [a, s], hin, qn, qs, l1 =>
        refine iteF ⟨_, rfl, p, _, _, _, rfl, rfl, SqL.of l1, atI_nat (j := 0) rfl, rfl, _, rfl, ?_⟩
        rw [show (V.str ∘ S) a = V.str (S a) from rfl, dec_T]
        dsimp only at qn qs
        refine ite2 (fun h1 => iteT ?_) (fun h1 => ?_)
        · exact qn (by rw [decide_eq_false (pn h1)]; rfl) _ s1
        · refine ⟨_, rfl, p, _, _, _, rfl, rfl, SqL.of l1, atI_nat (j := 1) rfl, _, _, rfl, .inr (sSt _), rfl, flat_sV _, _, rfl, ?_⟩
          rw [show (V.str ∘ S) s = sV s from rfl, inV_str]
          refine ite2 (fun h2 => ?_) (fun h2 => ?_)
          · exact qn (by rw [decide_eq_false (pn h2), Bool.and_false]) _ s1
          · refine ⟨_, rfl, p, _, _, _, rfl, rfl, SqL.of l1, atI_nat (j := 1) rfl, by show 1 ≤ sizeLine; decide, fun l hl' => ?_⟩
            exact qs (by rw [decide_eq_true (pp h1), decide_eq_true (pp h2)]; rfl) _ _ (s1.trans (same_new hl')) upd_same
    | false =>
      refine ⟨_, rfl, rfl, _, rfl, iteT ?_⟩
      refine ⟨_, rfl, p, _, rfl, .inl (SqL.of l1), rfl, _, rfl, ?_⟩
      rw [List.length_map, show (V.int 3) = V.int ((3 : Nat) : Int) from rfl, lenD]
      match ws, hin, qn, qs, l1 with
      | [], _, qn, qs, l1 => exact iteT (iteT (qn rfl _ s1))
      | [_], _, qn, qs, l1 => exact iteT (iteT (qn rfl _ s1))
      | [_, _], _, qn, qs, l1 => exact iteT (iteT (qn rfl _ s1))
      | _ :: _ :: _ :: _ :: _, _, qn, qs, l1 => 
        rw [decide_eq_false (by simp)]
        exact iteT (iteT (qn rfl _ s1))
      | [a, m, pp'], hin, qn, qs, l1 =>
        refine iteF ⟨_, rfl, p, _, _, _, rfl, rfl, SqL.of l1, atI_nat (j := 0) rfl, rfl, _, rfl, ?_⟩
        rw [show (V.str ∘ S) a = V.str (S a) from rfl, dec_T]
        dsimp only at qn qs
        refine ite2 (fun h1 => ?_) (fun h1 => ?_)
        · exact qn (by rw [decide_eq_false (pn h1)]; rfl) _ s1
        · refine ⟨_, rfl, p, _, _, _, rfl, rfl, SqL.of l1, atI_nat (j := 1) rfl, _, _, rfl, .inr (sMe _), rfl, flat_sV _, _, rfl, ?_⟩
          rw [show (V.str ∘ S) m = sV m from rfl, inV_str]
          refine ite2 (fun h2 => iteT ?_) (fun h2 => ?_)
          · exact qn (by rw [decide_eq_false (pn h2), Bool.and_false]; rfl) _ s1
          · refine ⟨_, rfl, p, _, _, _, rfl, rfl, SqL.of l1, atI_nat (j := 2) rfl, pp', rfl, Nat.le_trans (hin _ (by simp)) (Nat.le_trans hl (by decide)), fun H2 s2 => ⟨_, rfl, ?_⟩⟩
            refine ite2 (fun h3 => ?_) (fun h3 => ?_)
            · have h3 : isPathT pp' = false := by simpa using h3
              exact qn (by rw [h3, Bool.and_false]) _ (s1.trans s2)
            · have h3 : isPathT pp' = true := by simpa using h3
              refine ⟨_, rfl, p, _, _, _, rfl, rfl, SqL.of (s2 _ _ l1), atI_nat (j := 1) rfl, _, rfl, p, _, _, _, rfl, rfl, SqL.of (s2 _ _ l1), atI_nat (j := 2) rfl, by show 2 ≤ sizeLine; decide, fun l hl' => ?_⟩
              exact qs (by rw [decide_eq_true (pp h1), decide_eq_true (pp h2), h3]; rfl) _ _ ((s1.trans s2).trans (same_new hl')) upd_same
end
end K6

set_option Elab.async false
set_option linter.all false
set_option maxRecDepth 100000
set_option maxHeartbeats 4000000
/-! KW7: the law's reading of a head. -/
namespace K6
open PySem PySem.Spec PyProof.Rows L2
/-! ### positions -/
theorem lawLine_ln {t l : Tx} {a : Nat} (ha : a ≤ t.length) (h : lawLine t a = .ln l) : a + l.length + 1 ≤ t.length ∧ l.length ≤ 300 := by
  obtain ⟨⟨r, hr⟩, _, hl⟩ := lineOf_ln h
  have e := congrArg List.length hr
  rw [List.length_drop, List.length_append, List.length_cons] at e
  omega
theorem lineRes_good {m t : Bool} {fr : Option Tx} {n : Nat} {l : Tx} (h : ∀ k, lineResT m t fr n l ≠ .bad k) :
    ∃ k, ixOf 58 l = some k ∧ ((lowT (l.take k) = T "length" ∧ lineResT m t fr n l = .frame (stripT (l.drop (k + 1)))) ∨
      (lowT (l.take k) ≠ T "length" ∧ lineResT m t fr n l = .field (lowT (l.take k)) (stripT (l.drop (k + 1))) ∧ n < 40 ∧ isNameT (lowT (l.take k)) = true ∧ isValueT (stripT (l.drop (k + 1))) = true)) := by
  unfold lineResT fieldOf at h ⊢
  cases hk : ixOf 58 l with
  | none =>
    rw [hk] at h
    exact absurd rfl (h .field)
  | some k =>
    rw [hk] at h
    refine ⟨k, rfl, ?_⟩
    dsimp only at h ⊢
    generalize lowT (l.take k) = nm at h ⊢
    generalize stripT (l.drop (k + 1)) = v at h ⊢
    by_cases h1 : nm ≠ T "length" ∧ ¬ (isNameT nm = true ∧ isValueT v = true)
    · rw [if_pos h1] at h
      exact absurd rfl (h .field)
    · rw [if_neg h1] at h ⊢
      dsimp only at h ⊢
      by_cases h2 : nm = T "length"
      · rw [if_pos h2] at h ⊢
        refine .inl ⟨h2, ?_⟩
        unfold frameRes at h ⊢
        split at h
        · exact absurd rfl (h _)
        · split at h
          · exact absurd rfl (h _)
          · split at h
            · exact absurd rfl (h _)
            · rename_i a b c
              rw [if_neg a, if_neg b, if_neg c]
      · rw [if_neg h2] at h ⊢
        refine .inr ⟨h2, ?_⟩
        by_cases h3 : 40 ≤ n
        · rw [if_pos h3] at h
          exact absurd rfl (h _)
        · rw [if_neg h3]
          have h4 : isNameT nm = true ∧ isValueT v = true := Classical.byContradiction fun z => h1 ⟨h2, z⟩
          exact ⟨rfl, by omega, h4.1, h4.2⟩
/-! ### what stands in the heap -/
def stgV : Stg → V
  | .start => str "start"
  | .fields => str "fields"
  | .body => str "body"
  | .size => str "size"
  | .chunk => str "chunk"
  | .ends => str "end"
  | .trailer => str "trailer"
  | .closed => str "closed"
  | .broken => str "broken"
def FldAt (H : Hp) (x : V) (f : Fld) : Prop := ∃ p, x = .ref p ∧ H p = some (.tup (fldV f))
def FldsAt (H : Hp) (xs : List V) (fs : List Fld) : Prop := Paired (FldAt H) xs fs
def FltAt (H : Hp) (x : V) : Flt → Prop
  | none => x = .non
  | some (k, i) => ∃ p, x = .ref p ∧ H p = some (.tup [fkV k, .int i])
def FlagAt (H : Hp) (x : V) : Flag → Prop
  | none => x = .non
  | some (g, f) => ∃ p y, x = .ref p ∧ H p = some (.lst [stgV g, y]) ∧ FltAt H y f
theorem FltAt.mono {H H' : Hp} {x : V} {f : Flt} (h : FltAt H x f) (k : ∀ b xs, H b = some (.tup xs) → H' b = some (.tup xs)) : FltAt H' x f := by
  cases f with
  | none => exact h
  | some f =>
    obtain ⟨p, e, h⟩ := h
    exact ⟨p, e, k _ _ h⟩
theorem FlagAt.same {H H' : Hp} {x : V} {f : Flag} (h : FlagAt H x f) (s : Same H H') : FlagAt H' x f := by
  cases f with
  | none => exact h
  | some f =>
    obtain ⟨p, y, e, h, k⟩ := h
    exact ⟨p, y, e, s _ _ h, k.mono fun b xs e => s _ _ e⟩
theorem FldsAt.mono {H H' : Hp} {xs : List V} {fs : List Fld} (h : FldsAt H xs fs) (k : ∀ b ys, H b = some (.tup ys) → H' b = some (.tup ys)) : FldsAt H' xs fs :=
  Paired.mapP h fun x f ⟨p, e, hp⟩ => ⟨p, e, k _ _ hp⟩
theorem FldsAt.length {H : Hp} {xs : List V} {fs : List Fld} (h : FldsAt H xs fs) : xs.length = fs.length := Paired.length h
theorem FldsAt.snoc {H : Hp} {x : V} {f : Fld} (hf : FldAt H x f) : ∀ {xs : List V} {fs : List Fld}, FldsAt H xs fs → FldsAt H (xs ++ [x]) (fs ++ [f])
  | _, _, .nil => .cons hf .nil
  | _, _, .cons h r => .cons h (FldsAt.snoc hf r)
/-- all but the list at l stands -/
def Kp1 (l : Addr) (H H' : Hp) : Prop := ∀ b x, H b = some x → b ≠ l → H' b = some x
theorem Kp1.refl {l : Addr} {H : Hp} : Kp1 l H H := fun _ _ e _ => e
theorem Kp1.same {l : Addr} {H H1 H2 : Hp} (k : Kp1 l H H1) (s : Same H1 H2) : Kp1 l H H2 := fun b x e n => s _ _ (k b x e n)
theorem Kp1.trans {l : Addr} {H H1 H2 : Hp} (k : Kp1 l H H1) (s : Kp1 l H1 H2) : Kp1 l H H2 := fun b x e n => s _ _ (k b x e n) n
theorem Kp1.put {l : Addr} {H H1 : Hp} {o : HO} (k : Kp1 l H H1) : Kp1 l H (upd H1 l o) := fun b x e n => by
  rw [upd_ne n]
  exact k b x e n
theorem Kp1.tup {l : Addr} {H H1 : Hp} {xs : List V} (k : Kp1 l H H1) (hl : H l = some (.lst xs)) : ∀ b ys, H b = some (.tup ys) → H1 b = some (.tup ys) := fun b ys e =>
  k b _ e fun z => by rw [z, hl] at e; cases e
theorem put_tup {l : Addr} {H : Hp} {xs : List V} {o : HO} (hl : H l = some (.lst xs)) : ∀ b ys, H b = some (.tup ys) → upd H l o b = some (.tup ys) := fun b ys e => by
  rw [upd_ne fun z => by rw [z, hl] at e; cases e]
  exact e
def HeadAt (H : Hp) (r : Addr) (h : HR) : Prop := ∃ x, H r = some (.lst [.int (h.pos : Nat), frV h.frame, x]) ∧ FlagAt H x h.flag
theorem HeadAt.same {H H' : Hp} {r : Addr} {h : HR} (k : HeadAt H r h) (s : Same H H') : HeadAt H' r h := by
  obtain ⟨x, h1, h2⟩ := k
  exact ⟨x, s _ _ h1, h2.same s⟩
theorem head_none {H1 : Hp} {r : Addr} {a : Nat} {fr : Option Tx} {fs : List Fld} : HeadAt (upd H1 r (.lst [.int (a : Nat), frV fr, .non])) r ⟨a, fr, none, fs⟩ := ⟨_, upd_same, rfl⟩
theorem head_some' {H1 : Hp} {l r : Addr} {a : Nat} {fr : Option Tx} {fs : List Fld} {g : Stg} {y : V} {f : Flt} (hl : H1 l = none) (hy : FltAt H1 y f) (hr : upd H1 l (.lst [stgV g, y]) r = none) :
    HeadAt (upd (upd H1 l (.lst [stgV g, y])) r (.lst [.int (a : Nat), frV fr, .ref l])) r ⟨a, fr, some (g, f), fs⟩ :=
  ⟨_, upd_same, l, y, rfl, same_new hr _ _ upd_same, hy.mono fun b xs e => same_new hr _ _ (same_new hl _ _ e)⟩
theorem frV_not (f : Option Tx) : decide (frV f = V.non) = decide (f = none) := by
  cases f with
  | none => rfl
  | some v => rw [decide_eq_false (by intro z; cases z), decide_eq_false (by intro z; cases z)]
theorem op_isF {X : Cx} : OpR X (compareOp .Is) (fun x y H Q => y = .bl false ∧ ((x = .bl false ∧ Q (.bl true) H) ∨ (((∃ t, x = .str t) ∨ x = .non) ∧ Q (.bl false) H))) := by
  intro pins s σ H x y v u Q I rx ry h
  obtain ⟨rfl, h⟩ := h
  cases (show u = Value.bool false from ry)
  rcases h with ⟨rfl, q⟩ | ⟨h, q⟩
  · cases (show v = Value.bool false from rx)
    exact wpAny_is_self rfl ⟨.bl true, H, I, rfl, q⟩
  · rcases h with ⟨t, rfl⟩ | rfl
    · obtain ⟨t, rfl⟩ := rx
      exact wpAny_is_other rfl (fun z => by cases z) ⟨.bl false, H, I, rfl, q⟩
    · cases (show v = Value.none from rx)
      exact wpAny_is_other rfl (fun z => by cases z) ⟨.bl false, H, I, rfl, q⟩
section
variable {P : Program} {w : World} {K : PySem.W.Frag} {mg : PySem.Str → Option Value} {base : Heap}
def sp__law_head : Sp := fun vs H Q _ => ∃ (b : Bool) (t st : Tx) (a : Nat) (fa : Addr) (xs : List V) (fs : List Fld) (tr : Bool), vs = [.str (S t), .int a, .str (S st), .ref fa, .bl tr] ∧ t.length ≤ 4000000 ∧ a ≤ t.length ∧
  H fa = some (.lst xs) ∧ FldsAt H xs fs ∧ fs.length ≤ 40 ∧
  ∀ H' r xs', Kp1 fa H H' → H' fa = some (.lst xs') → FldsAt H' xs' (lawHead (Par b) t st tr (t.length + 1) a fs none).fields → HeadAt H' r (lawHead (Par b) t st tr (t.length + 1) a fs none) → Q (.ref r) H'
theorem ok__law_head (T : Txt K mg) : Ok P w K mg base CX0 "_law_head" 4 ["_law_text", "_law_at", "_law_start", "_law_fields", "_law_trailer"] sp__law_head := by
  obtain ⟨f, fd, hm, F⟩ := T._law_head
  refine ⟨f, fd, hm, F.kp, F.binds fun _ _ _ _ _ _ us hl => match us, hl with | [_, _, _, _, _], _ => rfl, F.ok sc__law_head (fun vs H Q E h => ?_) (fun cdv A outer s H vs Q E hr h => ?_)⟩
  · obtain ⟨b, t, st, a, fa, xs, fs, tr, rfl, _⟩ := h
    rfl
  · obtain ⟨b, t, st, a0, fa, xs0, fs0, tr, rfl, hlt, ha0, hfa0, hfs0, hn0, q⟩ := h
    have hl : t.length ≤ sizeLine := Nat.le_trans hlt (by decide)
    generalize hh : lawHead (Par b) t st tr (t.length + 1) a0 fs0 none = hR at q
    refine ⟨_, pss_cons (ps_set (i := 5) sc__law_head.nd rfl (Or.inl rfl) pe_non) (pss_cons (ps_for PassesOwn.never rfl (pi_range1 rfl T.range (pa_cons (pe_op op_add (pe_callB call_len_str rfl T.len (by decide +kernel) (pa_cons (pv 0) pa_nil)) pe_int) pa_nil)) (pg_name (i := 6) sc__law_head.nd rfl (Or.inl rfl)) (pss_cons (ps_set (i := 7) sc__law_head.nd rfl (Or.inl rfl) (pe_callO (ok__law_line T) hr rfl (pa_cons (pv 0) (pa_cons (pv 1) pa_nil)))) (pss_cons (ps_if (PW.pt (pw_and (pt_cmpR op_isN (pv 7) pe_non (nomark _)) (pw_and1 (pt_val (pv 4))))) (pss_one (ps_ret (pe_lst (pa_cons (pv 1) (pa_cons (pv 5) (pa_cons (pe_lst (pa_cons pe_str (pa_cons pe_non pa_nil))) pa_nil)))))) pss_nil) (pss_cons (ps_if (pt_cmpR op_isN (pv 7) pe_non (nomark _)) (pss_one (ps_ret (pe_lst (pa_cons (pv 1) (pa_cons (pv 5) (pa_cons (pe_lst (pa_cons pe_str (pa_cons pe_non pa_nil))) pa_nil)))))) pss_nil) (pss_cons (ps_if (pt_cmpR op_isF (pv 7) pe_bl (nomark _)) (pss_one (ps_ret (pe_lst (pa_cons (pv 1) (pa_cons (pv 5) (pa_cons (pe_lst (pa_cons pe_str (pa_cons (pe_tup (pa_cons pe_str (pa_cons (pv 1) pa_nil))) pa_nil))) pa_nil)))))) pss_nil) (pss_cons (ps_if (pt_cmpR op_eq (pv 7) pe_str (nomark _)) (pss_one (ps_ret (pe_lst (pa_cons (pe_op op_add (pv 1) pe_int) (pa_cons (pv 5) (pa_cons pe_non pa_nil)))))) pss_nil) (pss_cons (ps_set (i := 8) sc__law_head.nd rfl (Or.inl rfl) (pe_callO (ok__law_line_fault T) hr rfl (pa_cons (pv 7) (pa_cons (pv 2) (pa_cons (pe_callB call_len_seq rfl T.len (by decide +kernel) (pa_cons (pv 3) pa_nil)) (pa_cons (pv 5) (pa_cons (pv 4) pa_nil))))))) (pss_cons (ps_if (pt_cmpR op_notN (pv 8) pe_non (nomark _)) (pss_one (ps_ret (pe_lst (pa_cons (pv 1) (pa_cons (pv 5) (pa_cons (pe_lst (pa_cons pe_str (pa_cons (pe_tup (pa_cons (pv 8) (pa_cons (pv 1) pa_nil))) pa_nil))) pa_nil)))))) pss_nil) (pss_cons (ps_set (i := 9) sc__law_head.nd rfl (Or.inl rfl) (pe_bm PySem.F.plainAttrs_str PySem.F.slot_str_find PySem.F.type_str_find mt_find (pv 7) (pa_cons pe_str pa_nil))) (pss_cons (ps_set (i := 10) sc__law_head.nd rfl (Or.inl rfl) (pe_bm PySem.F.plainAttrs_str PySem.F.slot_str_strip PySem.F.type_str_strip mt_stripChars (pe_slice sl_str (pv 7) (po_some (pe_op op_add (pv 9) pe_int)) po_none) (pa_cons pe_str pa_nil))) (pss_cons (ps_if (pt_cmpR op_eq (pe_lower (pe_slice sl_str (pv 7) po_none (po_some (pv 9)))) pe_str (nomark _)) (pss_one (ps_set (i := 5) sc__law_head.nd rfl (Or.inl rfl) (pv 10))) (pss_one (ps_expr (pe_bm PySem.F.plainAttrs_list PySem.F.slot_list_append PySem.F.type_list_append mt_append (pv 3) (pa_cons (pe_tup (pa_cons (pe_lower (pe_slice sl_str (pv 7) po_none (po_some (pv 9)))) (pa_cons (pv 10) pa_nil))) pa_nil))))) (pss_one (ps_set (i := 1) sc__law_head.nd rfl (Or.inl rfl) (pe_op op_add (pe_op op_add (pv 1) (pe_callB call_len_str rfl T.len (by decide +kernel) (pa_cons (pv 7) pa_nil))) pe_int)))))))))))))) (pss_one (ps_ret (pe_lst (pa_cons (pv 1) (pa_cons (pv 5) (pa_cons pe_non pa_nil))))))), ?_⟩
    refine ⟨_, rfl, _, rfl, hl, _, _, rfl, rfl, _, rfl, by rw [S_len]; have : t.length ≤ 16777216 := hl; omega, by rw [S_len]; have : t.length ≤ 16777216 := hl; omega, ?_⟩
    rw [S_len, show ((t.length : Nat) : Int) + 1 = ((t.length + 1 : Nat) : Int) from rfl, Int.toNat_natCast]
    refine for_it (n := t.length + 1) (G := fun _ => True) walk_range (fun i σ H' => ∃ (a : Nat) (fs : List Fld) (fr : Option Tx) (xs : List V) (v6 v7 v8 v9 v10 : Option V),
        σ = [some (.str (S t)), some (.int a), some (.str (S st)), some (.ref fa), some (.bl tr), some (frV fr), v6, v7, v8, v9, v10] ∧ Kp1 fa H H' ∧ H' fa = some (.lst xs) ∧ FldsAt H' xs fs ∧ fs.length ≤ 40 ∧ a ≤ t.length ∧
        lawHead (Par b) t st tr (t.length + 1 - i) a fs fr = hR)
      ⟨a0, fs0, none, xs0, _, _, _, _, _, rfl, Kp1.refl, hfa0, hfs0, hn0, ha0, hh⟩ (fun _ _ _ _ _ => trivial) ?_ ?_
    · rintro i x σ H1 H2 hi ⟨a, fs, fr, xs, v6, v7, v8, v9, v10, rfl, kp, hfa, hfs, hn, ha, he⟩ ⟨rfl, rfl⟩
      rw [show t.length + 1 - i = (t.length - i) + 1 from by omega] at he
      unfold lawHead at he
      refine ⟨_, rfl, _, rfl, t, a, rfl, hl, ha, ?_⟩
      cases hline : lawLine t a with
      | inc =>
        rw [hline] at he
        dsimp only at he
        cases tr with
        | true =>
          rw [if_pos rfl] at he
          subst he
          refine ⟨_, rfl, rfl, _, rfl, iteT ⟨_, rfl, _, rfl, iteT ⟨_, rfl, _, rfl, by show 2 ≤ sizeLine; decide, fun l hl' => ⟨by show 3 ≤ sizeLine; decide, fun r hr => ?_⟩⟩⟩⟩
          exact q _ r xs ((kp.same (same_new hl')).same (same_new hr)) (same_new hr _ _ (same_new hl' _ _ hfa)) (hfs.mono fun b ys e => same_new hr _ _ (same_new hl' _ _ e)) (head_some' (g := .trailer) (f := none) hl' rfl hr)
        | false =>
          rw [if_neg (by simp)] at he
          subst he
          refine ⟨_, rfl, rfl, _, rfl, iteT ⟨_, rfl, _, rfl, iteF ⟨_, rfl, rfl, _, rfl, iteT ⟨_, rfl, _, rfl, by show 2 ≤ sizeLine; decide, fun l hl' => ⟨by show 3 ≤ sizeLine; decide, fun r hr => ?_⟩⟩⟩⟩⟩
          exact q _ r xs ((kp.same (same_new hl')).same (same_new hr)) (same_new hr _ _ (same_new hl' _ _ hfa)) (hfs.mono fun b ys e => same_new hr _ _ (same_new hl' _ _ e)) (head_some' (g := .fields) (f := none) hl' rfl hr)
      | bad =>
        rw [hline] at he
        dsimp only at he
        subst he
        refine ⟨_, rfl, rfl, _, rfl, iteF ⟨_, rfl, rfl, _, rfl, iteF ⟨_, rfl, rfl, .inl ⟨rfl, _, rfl, iteT ⟨_, rfl, _, rfl, _, rfl, by show 2 ≤ sizeLine; decide, fun p hp => ⟨by show 2 ≤ sizeLine; decide, fun l hl' => ⟨by show 3 ≤ sizeLine; decide, fun r hr => ?_⟩⟩⟩⟩⟩⟩⟩
        exact q _ r xs (((kp.same (same_new hp)).same (same_new hl')).same (same_new hr)) (same_new hr _ _ (same_new hl' _ _ (same_new hp _ _ hfa))) (hfs.mono fun b ys e => same_new hr _ _ (same_new hl' _ _ (same_new hp _ _ e)))
          (head_some' (g := .broken) (f := some (.long, a)) hl' ⟨p, rfl, upd_same⟩ hr)
      | ln l =>
        rw [hline] at he
        dsimp only at he
        obtain ⟨hp1, hp2⟩ := lawLine_ln ha hline
        refine ⟨_, rfl, rfl, _, rfl, iteF ⟨_, rfl, rfl, _, rfl, iteF ⟨_, rfl, rfl, .inr ⟨.inl ⟨_, rfl⟩, _, rfl, iteF ⟨_, rfl, rfl, _, rfl, ?_⟩⟩⟩⟩⟩
        rw [show lineV (LL.ln l) = V.str (S l) from rfl, dec_emp]
        refine ite2 (fun h1 => ?_) (fun h1 => ?_)
        · have h1 : l = [] := of_decide_eq_true h1
          rw [if_pos h1] at he
          subst he
          refine ⟨_, rfl, _, _, rfl, rfl, _, rfl, by show 3 ≤ sizeLine; decide, fun r hr => ?_⟩
          exact q _ r xs (kp.same (same_new hr)) (same_new hr _ _ hfa) (hfs.mono fun b ys e => same_new hr _ _ e) (head_none (a := a + 1))
        · have h1 : ¬ l = [] := nd h1
          rw [if_neg h1] at he
          refine ⟨_, rfl, _, rfl, _, rfl, fa, xs, rfl, .inl (SqL.of hfa), _, rfl, _, rfl, l, st, fs.length, fr, tr, by rw [hfs.length]; rfl, by omega, ?_⟩
          generalize hres : lineResT (mayT st) tr fr fs.length l = res at he ⊢
          have hres' : (Par b).lineRes ((Par b).may st) tr fr fs.length l = res := hres
          rw [hres'] at he
          by_cases hb : ∃ k, res = .bad k
          · obtain ⟨k, rfl⟩ := hb
            dsimp only at he
            subst he
            have hk : decide (lrV (.bad k) = V.non) = false := by cases k <;> exact decide_eq_false (by intro z; cases z)
            refine ⟨_, rfl, rfl, _, rfl, ?_⟩
            rw [hk]
            refine iteT ⟨_, rfl, _, rfl, _, rfl, _, rfl, by show 2 ≤ sizeLine; decide, fun p hp => ⟨by show 2 ≤ sizeLine; decide, fun l hl' => ⟨by show 3 ≤ sizeLine; decide, fun r hr => ?_⟩⟩⟩
            exact q _ r xs (((kp.same (same_new hp)).same (same_new hl')).same (same_new hr)) (same_new hr _ _ (same_new hl' _ _ (same_new hp _ _ hfa))) (hfs.mono fun b ys e => same_new hr _ _ (same_new hl' _ _ (same_new hp _ _ e)))
              (head_some' (g := .broken) (f := some (k, a)) hl' ⟨p, rfl, upd_same⟩ hr)
          · have hg : ∀ k, lineResT (mayT st) tr fr fs.length l ≠ .bad k := fun k z => hb ⟨k, by rw [← hres, z]⟩
            obtain ⟨k, hk, hcase⟩ := lineRes_good hg
            rw [hres] at hcase
            have hkl := ixOf_lt hk
            have hnon : decide (lrV res = V.non) = true := by
              rcases hcase with ⟨_, e⟩ | ⟨_, e, _⟩ <;> rw [e] <;> rfl
            refine ⟨_, rfl, rfl, _, rfl, ?_⟩
            rw [hnon]
            refine iteF ⟨_, rfl, rfl, _, _, rfl, rfl, ?_⟩
            rw [find_colon, hk]
            have hl1 : l.length ≤ sizeLine := Nat.le_trans hp2 (by decide)
            refine ⟨_, rfl, _, rfl, _, _, rfl, rfl, _, rfl, _, rfl, hl1, rfl, _, _, rfl, rfl, ?_⟩
            rw [show cutS (S l) (some ((k : Int) + 1)) none = S (l.drop (k + 1)) from cut_from l (k + 1)]
            refine ⟨by rw [S_len, List.length_drop]; exact Nat.le_trans (Nat.sub_le _ _) hl1, ?_⟩
            rw [strip_S]
            refine ⟨_, rfl, _, rfl, _, rfl, _, rfl, hl1, ⟨_, rfl⟩, _, rfl, rfl, ?_⟩
            rw [cut_to]
            refine ⟨by rw [S_len, List.length_take]; omega, ?_⟩
            rw [low_S]
            refine ⟨rfl, _, rfl, ?_⟩
            rw [dec_T]
            rcases hcase with ⟨h2, e⟩ | ⟨h2, e, h3, _⟩
            · rw [e] at he
              dsimp only at he
              rw [decide_eq_true h2]
              refine iteT ⟨_, rfl, ?_⟩
              refine ⟨_, rfl, _, rfl, _, rfl, hl1, _, _, rfl, rfl, _, _, rfl, rfl, ?_⟩
              refine ⟨a + l.length + 1, fs, some (stripT (l.drop (k + 1))), xs, _, _, _, _, _, rfl, kp, hfa, hfs, hn, by omega, ?_⟩
              rw [show t.length + 1 - (i + 1) = t.length - i from by omega]
              exact he
            · rw [e] at he
              dsimp only at he
              rw [decide_eq_false h2]
              refine iteF ⟨_, rfl, .inl ⟨rfl, _, SqL.of hfa⟩, ?_⟩
              refine ⟨_, rfl, _, rfl, _, rfl, _, rfl, hl1, ⟨_, rfl⟩, _, rfl, rfl, ?_⟩
              rw [cut_to]
              refine ⟨by rw [S_len, List.length_take]; omega, ?_⟩
              rw [low_S]
              refine ⟨_, rfl, by show 2 ≤ sizeLine; decide, fun p hp => ⟨fa, xs, _, rfl, rfl, same_new hp _ _ hfa, by rw [hfs.length]; exact Nat.lt_of_le_of_lt hn (by decide), ?_⟩⟩
              refine ⟨_, rfl, _, rfl, _, rfl, hl1, _, _, rfl, rfl, _, _, rfl, rfl, ?_⟩
              refine ⟨a + l.length + 1, fs ++ [(lowT (l.take k), stripT (l.drop (k + 1)))], fr, xs ++ [.ref p], _, _, _, _, _, rfl, (kp.same (same_new hp)).put, upd_same, ?_, by rw [List.length_append]; exact h3, by omega, ?_⟩
              · have hfa' := same_new (o := .tup (fldV (lowT (l.take k), stripT (l.drop (k + 1))))) hp _ _ hfa
                refine FldsAt.snoc ⟨p, rfl, put_tup hfa' _ _ upd_same⟩ (hfs.mono fun b ys e => put_tup hfa' _ _ (same_new hp _ _ e))
              · rw [show t.length + 1 - (i + 1) = t.length - i from by omega]
                exact he
    · rintro σ H1 ⟨a, fs, fr, xs, v6, v7, v8, v9, v10, rfl, kp, hfa, hfs, hn, ha, he⟩
      rw [Nat.sub_self] at he
      unfold lawHead at he
      subst he
      refine ⟨_, rfl, _, rfl, by show 3 ≤ sizeLine; decide, fun r hr => ?_⟩
      exact q _ r xs (kp.same (same_new hr)) (same_new hr _ _ hfa) (hfs.mono fun b ys e => same_new hr _ _ e) head_none
end
end K6

set_option Elab.async false
set_option linter.all false
set_option maxRecDepth 100000
set_option maxHeartbeats 4000000
/-! KW8: the law's reading of bodies. -/
namespace K6
open PySem PySem.Spec PyProof.Rows L2
def ChunkAt (H : Hp) (r : Addr) (c : CR) : Prop := ∃ x, H r = some (.lst [.int (c.pos : Nat), .str (S c.body), x]) ∧ FlagAt H x c.flag
theorem ChunkAt.same {H H' : Hp} {r : Addr} {h : CR} (k : ChunkAt H r h) (s : Same H H') : ChunkAt H' r h := by
  obtain ⟨x, h1, h2⟩ := k
  exact ⟨x, s _ _ h1, h2.same s⟩
theorem chunk_none {H1 : Hp} {r : Addr} {a : Nat} {b : Tx} : ChunkAt (upd H1 r (.lst [.int (a : Nat), .str (S b), .non])) r ⟨a, b, none⟩ := ⟨_, upd_same, rfl⟩
theorem chunk_some {H1 : Hp} {l r : Addr} {a : Nat} {b : Tx} {g : Stg} {y : V} {f : Flt} (hl : H1 l = none) (hy : FltAt H1 y f) (hr : upd H1 l (.lst [stgV g, y]) r = none) :
    ChunkAt (upd (upd H1 l (.lst [stgV g, y])) r (.lst [.int (a : Nat), .str (S b), .ref l])) r ⟨a, b, some (g, f)⟩ :=
  ⟨_, upd_same, l, y, rfl, same_new hr _ _ upd_same, hy.mono fun b xs e => same_new hr _ _ (same_new hl _ _ e)⟩
theorem nl_take (u : Tx) : decide (V.str (S (u.take 1)) = V.str (PySem.Str.ofString "\n")) = decide (u.head? = some 10) := by
  rw [dec_T, show K6.T "\n" = [10] from by decide +kernel]
  refine decide_eq_decide.mpr ?_
  cases u with
  | nil => simp
  | cons c r => simp
theorem same_trans2 {H H1 H2 : Hp} (a : Same H H1) (b : Same H1 H2) : Same H H2 := a.trans b
section
variable {P : Program} {w : World} {K : PySem.W.Frag} {mg : PySem.Str → Option Value} {base : Heap}
def sp__law_chunked : Sp := fun vs H Q _ => ∃ (b : Bool) (t : Tx) (a : Nat), vs = [.str (S t), .int a] ∧ t.length ≤ 4000000 ∧ a ≤ t.length ∧
  ∀ H' r, Same H H' → H r = none → ChunkAt H' r (lawChunked (Par b) t (t.length + 1) a []) → Q (.ref r) H'
theorem ok__law_chunked (T : Txt K mg) : Ok P w K mg base CX0 "_law_chunked" 3 ["_law_text", "_law_at"] sp__law_chunked := by
  obtain ⟨f, fd, hm, F⟩ := T._law_chunked
  refine ⟨f, fd, hm, F.kp, F.binds fun _ _ _ _ _ _ us hl => match us, hl with | [_, _], _ => rfl, F.ok sc__law_chunked (fun vs H Q E h => ?_) (fun cdv A outer s H vs Q E hr h => ?_)⟩
  · obtain ⟨b, t, a, rfl, _⟩ := h
    rfl
  · obtain ⟨b, t, a0, rfl, hlt, ha0, q⟩ := h
    have hl : t.length ≤ sizeLine := Nat.le_trans hlt (by decide)
    generalize hh : lawChunked (Par b) t (t.length + 1) a0 [] = hR at q
    have q : ∀ (H1 : Hp) r o, Same H H1 → H1 r = none → ChunkAt (upd H1 r o) r hR → Q (.ref r) (upd H1 r o) := fun H1 r o s1 hr k => q _ r (s1.trans (same_new hr)) (s1.free hr) k
    refine ⟨_, pss_cons (ps_set (i := 2) sc__law_chunked.nd rfl (Or.inl rfl) pe_str) (pss_cons (ps_for PassesOwn.never rfl (pi_range1 rfl T.range (pa_cons (pe_op op_add (pe_callB call_len_str rfl T.len (by decide +kernel) (pa_cons (pv 0) pa_nil)) pe_int) pa_nil)) (pg_name (i := 3) sc__law_chunked.nd rfl (Or.inl rfl)) (pss_cons (ps_set (i := 4) sc__law_chunked.nd rfl (Or.inl rfl) (pe_callO (ok__law_line T) hr rfl (pa_cons (pv 0) (pa_cons (pv 1) pa_nil)))) (pss_cons (ps_if (pt_cmpR op_isN (pv 4) pe_non (nomark _)) (pss_one (ps_ret (pe_lst (pa_cons (pv 1) (pa_cons (pv 2) (pa_cons (pe_lst (pa_cons pe_str (pa_cons pe_non pa_nil))) pa_nil)))))) pss_nil) (pss_cons (ps_if (pt_cmpR op_isF (pv 4) pe_bl (nomark _)) (pss_one (ps_ret (pe_lst (pa_cons (pv 1) (pa_cons (pv 2) (pa_cons (pe_lst (pa_cons pe_str (pa_cons (pe_tup (pa_cons pe_str (pa_cons (pv 1) pa_nil))) pa_nil))) pa_nil)))))) pss_nil) (pss_cons (ps_if (pt_not (pt_val (pe_callO (ok__law_digits T) hr rfl (pa_cons (pv 4) pa_nil)))) (pss_one (ps_ret (pe_lst (pa_cons (pv 1) (pa_cons (pv 2) (pa_cons (pe_lst (pa_cons pe_str (pa_cons (pe_tup (pa_cons pe_str (pa_cons (pv 1) pa_nil))) pa_nil))) pa_nil)))))) pss_nil) (pss_cons (ps_set (i := 5) sc__law_chunked.nd rfl (Or.inl rfl) (pe_callTy call_int_str rfl T.int (by decide +kernel) (pa_cons (pv 4) pa_nil))) (pss_cons (ps_if (pt_cmpR op_gt (pe_op op_add (pe_callB call_len_str rfl T.len (by decide +kernel) (pa_cons (pv 2) pa_nil)) (pv 5)) pe_int (nomark _)) (pss_one (ps_ret (pe_lst (pa_cons (pv 1) (pa_cons (pv 2) (pa_cons (pe_lst (pa_cons pe_str (pa_cons (pe_tup (pa_cons pe_str (pa_cons (pv 1) pa_nil))) pa_nil))) pa_nil)))))) pss_nil) (pss_cons (ps_set (i := 1) sc__law_chunked.nd rfl (Or.inl rfl) (pe_op op_add (pe_op op_add (pv 1) (pe_callB call_len_str rfl T.len (by decide +kernel) (pa_cons (pv 4) pa_nil))) pe_int)) (pss_cons (ps_if (pt_cmpR op_eq (pv 5) pe_int (nomark _)) (pss_one (ps_ret (pe_lst (pa_cons (pv 1) (pa_cons (pv 2) (pa_cons pe_non pa_nil)))))) pss_nil) (pss_cons (ps_if (pt_cmpR op_lt (pe_op op_sub (pe_callB call_len_str rfl T.len (by decide +kernel) (pa_cons (pv 0) pa_nil)) (pv 1)) (pv 5) (nomark _)) (pss_one (ps_ret (pe_lst (pa_cons (pv 1) (pa_cons (pv 2) (pa_cons (pe_lst (pa_cons pe_str (pa_cons pe_non pa_nil))) pa_nil)))))) pss_nil) (pss_cons (ps_set (i := 2) sc__law_chunked.nd rfl (Or.inl rfl) (pe_op op_add_str (pv 2) (pe_slice sl_str (pv 0) (po_some (pv 1)) (po_some (pe_op op_add (pv 1) (pv 5)))))) (pss_cons (ps_set (i := 1) sc__law_chunked.nd rfl (Or.inl rfl) (pe_op op_add (pv 1) (pv 5))) (pss_cons (ps_if (pt_cmpR op_eq (pv 1) (pe_callB call_len_str rfl T.len (by decide +kernel) (pa_cons (pv 0) pa_nil)) (nomark _)) (pss_one (ps_ret (pe_lst (pa_cons (pv 1) (pa_cons (pv 2) (pa_cons (pe_lst (pa_cons pe_str (pa_cons pe_non pa_nil))) pa_nil)))))) pss_nil) (pss_cons (ps_if (pt_cmpR op_ne (pe_slice sl_str (pv 0) (po_some (pv 1)) (po_some (pe_op op_add (pv 1) pe_int))) pe_str (nomark _)) (pss_one (ps_ret (pe_lst (pa_cons (pv 1) (pa_cons (pv 2) (pa_cons (pe_lst (pa_cons pe_str (pa_cons (pe_tup (pa_cons pe_str (pa_cons (pv 1) pa_nil))) pa_nil))) pa_nil)))))) pss_nil) (pss_one (ps_set (i := 1) sc__law_chunked.nd rfl (Or.inl rfl) (pe_op op_add (pv 1) pe_int))))))))))))))))) (pss_one (ps_ret (pe_lst (pa_cons (pv 1) (pa_cons (pv 2) (pa_cons pe_non pa_nil))))))), ?_⟩
    refine ⟨_, rfl, _, rfl, hl, _, _, rfl, rfl, _, rfl, by rw [S_len]; have : t.length ≤ 16777216 := hl; omega, by rw [S_len]; have : t.length ≤ 16777216 := hl; omega, ?_⟩
    rw [S_len, show ((t.length : Nat) : Int) + 1 = ((t.length + 1 : Nat) : Int) from rfl, Int.toNat_natCast]
    refine for_it (n := t.length + 1) (G := fun _ => True) walk_range (fun i σ H' => ∃ (a : Nat) (bd : Tx) (v3 v4 v5 : Option V),
        σ = [some (.str (S t)), some (.int a), some (.str (S bd)), v3, v4, v5] ∧ Same H H' ∧ bd.length ≤ 100000 ∧ a ≤ t.length ∧ lawChunked (Par b) t (t.length + 1 - i) a bd = hR)
      ⟨a0, [], _, _, _, rfl, same_refl, Nat.zero_le _, ha0, hh⟩ (fun _ _ _ _ _ => trivial) ?_ ?_
    · rintro i x σ H1 H2 hi ⟨a, bd, v3, v4, v5, rfl, kp, hbd, ha, he⟩ ⟨rfl, rfl⟩
      rw [show t.length + 1 - i = (t.length - i) + 1 from by omega] at he
      unfold lawChunked at he
      refine ⟨_, rfl, _, rfl, t, a, rfl, hl, ha, ?_⟩
      cases hline : lawLine t a with
      | inc =>
        rw [hline] at he
        dsimp only at he
        subst he
        refine ⟨_, rfl, rfl, _, rfl, iteT ⟨_, rfl, _, rfl, by show 2 ≤ sizeLine; decide, fun l hl' => ⟨by show 3 ≤ sizeLine; decide, fun r hr => ?_⟩⟩⟩
        exact q _ r _ (kp.trans (same_new hl')) hr (chunk_some (g := .size) (f := none) hl' rfl hr)
      | bad =>
        rw [hline] at he
        dsimp only at he
        subst he
        refine ⟨_, rfl, rfl, _, rfl, iteF ⟨_, rfl, rfl, .inl ⟨rfl, _, rfl, iteT ⟨_, rfl, _, rfl, _, rfl, by show 2 ≤ sizeLine; decide, fun p hp => ⟨by show 2 ≤ sizeLine; decide, fun l hl' => ⟨by show 3 ≤ sizeLine; decide, fun r hr => ?_⟩⟩⟩⟩⟩⟩
        exact q _ r _ ((kp.trans (same_new hp)).trans (same_new hl')) hr (chunk_some (g := .broken) (f := some (.long, a)) hl' ⟨p, rfl, upd_same⟩ hr)
      | ln l =>
        rw [hline] at he
        dsimp only at he
        obtain ⟨hp1, hp2⟩ := lawLine_ln ha hline
        have hl1 : l.length ≤ sizeLine := Nat.le_trans hp2 (by decide)
        refine ⟨_, rfl, rfl, _, rfl, iteF ⟨_, rfl, rfl, .inr ⟨.inl ⟨_, rfl⟩, _, rfl, iteF ⟨_, rfl, l, rfl, hl1, _, rfl, ?_⟩⟩⟩⟩
        cases hn : numT l with
        | none =>
          have hd : digT l = false := by
            unfold numT at hn
            split at hn
            · cases hn
            · rename_i z; exact eq_false_of_ne_true z
          have hn' : (Par b).num l = none := hn
          rw [hn'] at he
          dsimp only at he
          subst he
          rw [hd]
          refine iteT ⟨_, rfl, _, rfl, _, rfl, by show 2 ≤ sizeLine; decide, fun p hp => ⟨by show 2 ≤ sizeLine; decide, fun l hl' => ⟨by show 3 ≤ sizeLine; decide, fun r hr => ?_⟩⟩⟩
          exact q _ r _ ((kp.trans (same_new hp)).trans (same_new hl')) hr (chunk_some (g := .broken) (f := some (.chunk, a)) hl' ⟨p, rfl, upd_same⟩ hr)
        | some n =>
          have hd : digT l = true := by
            unfold numT at hn
            split at hn
            · assumption
            · cases hn
          have hn' : (Par b).num l = some n := hn
          rw [hn'] at he
          dsimp only at he
          rw [hd]
          refine iteF ⟨_, rfl, _, _, rfl, numT_int hn, by rw [S_len]; omega, ?_⟩
          refine ⟨_, rfl, _, rfl, by rw [S_len]; exact Nat.le_trans hbd (by decide), _, rfl, _, _, rfl, rfl, _, _, rfl, rfl, _, rfl, ?_⟩
          rw [S_len]
          refine ite2 (fun h1 => ?_) (fun h1 => ?_)
          · have h1 := of_decide_eq_true h1
            rw [if_pos (by omega)] at he
            subst he
            refine ⟨_, rfl, _, rfl, _, rfl, by show 2 ≤ sizeLine; decide, fun p hp => ⟨by show 2 ≤ sizeLine; decide, fun l hl' => ⟨by show 3 ≤ sizeLine; decide, fun r hr => ?_⟩⟩⟩
            exact q _ r _ ((kp.trans (same_new hp)).trans (same_new hl')) hr (chunk_some (g := .broken) (f := some (.long, a)) hl' ⟨p, rfl, upd_same⟩ hr)
          · have h1 := nd h1
            rw [if_neg (by omega)] at he
            refine ⟨_, rfl, _, rfl, _, rfl, hl1, _, _, rfl, rfl, _, _, rfl, rfl, ?_⟩
            simp only [S_len]
            rw [show ((a : Nat) : Int) + (l.length : Nat) + 1 = ((a + l.length + 1 : Nat) : Int) from rfl]
            refine ⟨_, rfl, rfl, _, rfl, ?_⟩
            rw [show decide (V.int (n : Nat) = V.int 0) = decide (n = 0) from lenD n 0]
            refine ite2 (fun h2 => ?_) (fun h2 => ?_)
            · have h2 := of_decide_eq_true h2
              rw [if_pos h2] at he
              subst he
              refine ⟨_, rfl, _, rfl, by show 3 ≤ sizeLine; decide, fun r hr => ?_⟩
              exact q _ r _ kp hr chunk_none
            · have h2 := nd h2
              rw [if_neg h2] at he
              refine ⟨_, rfl, _, rfl, hl, _, rfl, _, _, rfl, rfl, _, rfl, _, _, rfl, rfl, _, rfl, ?_⟩
              rw [S_len]
              refine ite2 (fun h3 => ?_) (fun h3 => ?_)
              · have h3 := of_decide_eq_true h3
                rw [if_pos (by omega)] at he
                subst he
                refine ⟨_, rfl, _, rfl, by show 2 ≤ sizeLine; decide, fun l hl' => ⟨by show 3 ≤ sizeLine; decide, fun r hr => ?_⟩⟩
                exact q _ r _ (kp.trans (same_new hl')) hr (chunk_some (g := .chunk) (f := none) hl' rfl hr)
              · have h3 := nd h3
                rw [if_neg (by omega)] at he
                refine ⟨_, rfl, _, rfl, _, rfl, _, rfl, _, rfl, _, rfl, _, _, rfl, rfl, _, rfl, _, rfl, hl, ?_⟩
                dsimp only []
                rw [show ((a + l.length + 1 : Nat) : Int) + (n : Nat) = ((a + l.length + 1 + n : Nat) : Int) from rfl, cut_mid, Nat.add_sub_cancel_left]
                have hx : ((t.drop (a + l.length + 1)).take n).length ≤ n := List.length_take_le _ _
                refine ⟨_, _, rfl, rfl, ?_, ?_⟩
                · rw [S_len, S_len]
                  exact Nat.le_trans (Nat.add_le_add hbd (Nat.le_trans hx (show n ≤ 100000 from by omega))) (by decide)
                rw [S_app]
                refine ⟨_, rfl, _, rfl, _, _, rfl, rfl, ?_⟩
                dsimp only []
                rw [show ((a + l.length + 1 : Nat) : Int) + (n : Nat) = ((a + l.length + 1 + n : Nat) : Int) from rfl]
                refine ⟨_, rfl, _, rfl, _, rfl, hl, rfl, _, rfl, ?_⟩
                rw [S_len, lenD]
                refine ite2 (fun h4 => ?_) (fun h4 => ?_)
                · have h4 := of_decide_eq_true h4
                  rw [if_pos h4] at he
                  subst he
                  refine ⟨_, rfl, _, rfl, by show 2 ≤ sizeLine; decide, fun l hl' => ⟨by show 3 ≤ sizeLine; decide, fun r hr => ?_⟩⟩
                  exact q _ r _ (kp.trans (same_new hl')) hr (chunk_some (g := .ends) (f := none) hl' rfl hr)
                · have h4 := nd h4
                  rw [if_neg h4] at he
                  refine ⟨_, rfl, _, rfl, _, rfl, _, rfl, _, _, rfl, rfl, _, rfl, _, rfl, hl, rfl, _, rfl, ?_⟩
                  dsimp only []
                  rw [show ((a + l.length + 1 + n : Nat) : Int) + 1 = ((a + l.length + 1 + n + 1 : Nat) : Int) from rfl, cut_mid, Nat.add_sub_cancel_left, nl_take]
                  refine ite2 (fun h5 => ?_) (fun h5 => ?_)
                  · rw [if_pos (pn h5)] at he
                    subst he
                    refine ⟨_, rfl, _, rfl, _, rfl, by show 2 ≤ sizeLine; decide, fun p hp => ⟨by show 2 ≤ sizeLine; decide, fun l hl' => ⟨by show 3 ≤ sizeLine; decide, fun r hr => ?_⟩⟩⟩
                    exact q _ r _ ((kp.trans (same_new hp)).trans (same_new hl')) hr (chunk_some (g := .broken) (f := some (.chunk, _)) hl' ⟨p, rfl, upd_same⟩ hr)
                  · have h5 := pp h5
                    rw [if_neg (fun z => z h5)] at he
                    refine ⟨_, rfl, _, _, rfl, rfl, ?_⟩
                    refine ⟨a + l.length + 1 + n + 1, bd ++ (t.drop (a + l.length + 1)).take n, _, _, _, rfl, kp, ?_, by omega, ?_⟩
                    · rw [List.length_append]
                      omega
                    · rw [show t.length + 1 - (i + 1) = t.length - i from by omega]
                      exact he
    · rintro σ H1 ⟨a, bd, v3, v4, v5, rfl, kp, hbd, ha, he⟩
      rw [Nat.sub_self] at he
      unfold lawChunked at he
      subst he
      refine ⟨_, rfl, _, rfl, by show 3 ≤ sizeLine; decide, fun r hr => ?_⟩
      exact q _ r _ kp hr chunk_none
end
end K6

set_option Elab.async false
set_option linter.all false
set_option maxRecDepth 100000
set_option maxHeartbeats 4000000
/-! KW9: the law's reading of one message. -/
namespace K6
open PySem PySem.Spec PyProof.Rows L2
/-! ### plain facts -/
def FrOk (fr : Option Tx) : Prop := ∀ v, fr = some v → v = chunksT ∨ ∃ k, numT v = some k ∧ k ≤ 100000
theorem lawHead_pos {b : Bool} {t st : Tx} {tr : Bool} : ∀ (f a : Nat) (fs : List Fld) (fr : Option Tx), a ≤ t.length → (lawHead (Par b) t st tr f a fs fr).pos ≤ t.length
  | 0, a, fs, fr, ha => ha
  | f + 1, a, fs, fr, ha => by
    unfold lawHead
    cases h : lawLine t a with
    | inc => exact ha
    | bad => exact ha
    | ln l =>
      have := (lawLine_ln ha h).1
      dsimp only
      split
      · show a + 1 ≤ t.length
        omega
      · split
        · exact ha
        · exact lawHead_pos f _ _ _ this
        · exact lawHead_pos f _ _ _ this
theorem lawHead_frame {b : Bool} {t st : Tx} {tr : Bool} : ∀ (f a : Nat) (fs : List Fld) (fr : Option Tx), FrOk fr → FrOk (lawHead (Par b) t st tr f a fs fr).frame
  | 0, a, fs, fr, h => h
  | f + 1, a, fs, fr, h => by
    unfold lawHead
    cases hl : lawLine t a with
    | inc => exact h
    | bad => exact h
    | ln l =>
      dsimp only
      split
      · exact h
      · split
        · exact h
        · rename_i v e
          refine lawHead_frame f _ _ _ fun w hw => ?_
          injection hw with hw
          subst hw
          exact ((Par b).frameOk _ _ _ _ _ _ e).2.2
        · exact lawHead_frame f _ _ _ h
theorem lawHead_many {b : Bool} {t st : Tx} {tr : Bool} : ∀ (f a : Nat) (fs : List Fld) (fr : Option Tx), fs.length ≤ 40 → (lawHead (Par b) t st tr f a fs fr).fields.length ≤ 40
  | 0, a, fs, fr, h => h
  | f + 1, a, fs, fr, h => by
    unfold lawHead
    cases hl : lawLine t a with
    | inc => exact h
    | bad => exact h
    | ln l =>
      dsimp only
      split
      · exact h
      · split
        · exact h
        · exact lawHead_many f _ _ _ h
        · rename_i n v e
          refine lawHead_many f _ _ _ ?_
          have e : lineResT (mayT st) tr fr fs.length l = .field n v := e
          obtain ⟨k, _, hc⟩ := lineRes_good (fun k z => by rw [z] at e; cases e)
          rcases hc with ⟨_, e2⟩ | ⟨_, _, e2, _⟩
          · rw [e2] at e; cases e
          · rw [List.length_append, List.length_singleton]; omega
theorem lawChunked_ok {b : Bool} {t : Tx} : ∀ (f a : Nat) (bd : Tx), a ≤ t.length → bd.length ≤ 100000 → (lawChunked (Par b) t f a bd).pos ≤ t.length ∧ (lawChunked (Par b) t f a bd).body.length ≤ 100000
  | 0, a, bd, ha, hb => ⟨ha, hb⟩
  | f + 1, a, bd, ha, hb => by
    unfold lawChunked
    cases h : lawLine t a with
    | inc => exact ⟨ha, hb⟩
    | bad => exact ⟨ha, hb⟩
    | ln l =>
      have h1 := (lawLine_ln ha h).1
      dsimp only
      split
      · exact ⟨ha, hb⟩
      · rename_i n hn
        have hx : ((t.drop (a + l.length + 1)).take n).length ≤ n := List.length_take_le _ _
        split
        · exact ⟨ha, hb⟩
        · split
          · exact ⟨h1, hb⟩
          · split
            · exact ⟨h1, hb⟩
            · have h2 : (bd ++ (t.drop (a + l.length + 1)).take n).length ≤ 100000 := by rw [List.length_append]; omega
              split
              · exact ⟨by dsimp only; omega, h2⟩
              · split
                · exact ⟨by dsimp only; omega, h2⟩
                · exact lawChunked_ok f _ _ (by omega) h2
/-! ### what stands in the heap -/
def RowAt (N : Addr → Prop) (H : Hp) (x : V) (r : Row) : Prop := ∃ p fa xs, x = .ref p ∧ H p = some (.tup [.str (S r.start), .ref fa, .str (S r.body)]) ∧ N fa ∧ H fa = some (.lst xs) ∧ FldsAt H xs r.fields
def RowOpt (N : Addr → Prop) (H : Hp) (x : V) : Option Row → Prop
  | none => x = .non
  | some r => RowAt N H x r
def RowsAt (N : Addr → Prop) (H : Hp) (xs : List V) (rs : List Row) : Prop := Paired (RowAt N H) xs rs
def OpnAt (N : Addr → Prop) (H : Hp) (x : V) : Option (List Row) → Prop
  | none => x = .non
  | some rs => ∃ p xs, x = .ref p ∧ N p ∧ H p = some (.lst xs) ∧ RowsAt N H xs rs
def OneAt (N : Addr → Prop) (H : Hp) (r : Addr) (o : OR) : Prop := ∃ x y z, H r = some (.lst [x, .int (o.pos : Nat), y, z]) ∧ RowOpt N H x o.row ∧ FlagAt H y o.flag ∧ OpnAt N H z o.opn
section
variable {N N' : Addr → Prop}
theorem RowAt.same {H H' : Hp} {x : V} {r : Row} (h : RowAt N H x r) (s : Same H H') : RowAt N H' x r := by
  obtain ⟨p, fa, xs, e, h1, hn, h2, h3⟩ := h
  exact ⟨p, fa, xs, e, s _ _ h1, hn, s _ _ h2, h3.mono fun b ys e => s _ _ e⟩
theorem RowAt.weak {H : Hp} {x : V} {r : Row} (h : RowAt N H x r) (s : ∀ a, N a → N' a) : RowAt N' H x r := by
  obtain ⟨p, fa, xs, e, h1, hn, h2, h3⟩ := h
  exact ⟨p, fa, xs, e, h1, s _ hn, h2, h3⟩
theorem RowOpt.same {H H' : Hp} {x : V} {r : Option Row} (h : RowOpt N H x r) (s : Same H H') : RowOpt N H' x r := by
  cases r with
  | none => exact h
  | some r => exact RowAt.same h s
theorem RowsAt.same {H H' : Hp} {x : List V} {r : List Row} (h : RowsAt N H x r) (s : Same H H') : RowsAt N H' x r := Paired.mapP h fun _ _ k => k.same s
theorem RowsAt.weak {H : Hp} {x : List V} {r : List Row} (h : RowsAt N H x r) (s : ∀ a, N a → N' a) : RowsAt N' H x r := Paired.mapP h fun _ _ k => k.weak s
theorem OpnAt.same {H H' : Hp} {x : V} {r : Option (List Row)} (h : OpnAt N H x r) (s : Same H H') : OpnAt N H' x r := by
  cases r with
  | none => exact h
  | some r =>
    obtain ⟨p, xs, e, hn, h1, h2⟩ := h
    exact ⟨p, xs, e, hn, s _ _ h1, h2.same s⟩
theorem OpnAt.weak {H : Hp} {x : V} {r : Option (List Row)} (h : OpnAt N H x r) (s : ∀ a, N a → N' a) : OpnAt N' H x r := by
  cases r with
  | none => exact h
  | some r =>
    obtain ⟨p, xs, e, hn, h1, h2⟩ := h
    exact ⟨p, xs, e, s _ hn, h1, h2.weak s⟩
theorem OneAt.same {H H' : Hp} {r : Addr} {o : OR} (h : OneAt N H r o) (s : Same H H') : OneAt N H' r o := by
  obtain ⟨x, y, z, h1, h2, h3, h4⟩ := h
  exact ⟨x, y, z, s _ _ h1, h2.same s, h3.same s, h4.same s⟩
theorem one_mk {H1 : Hp} {r : Addr} {x y z : V} {o : OR} (hr : H1 r = none) (h2 : RowOpt N H1 x o.row) (h3 : FlagAt H1 y o.flag) (h4 : OpnAt N H1 z o.opn) : OneAt N (upd H1 r (.lst [x, .int (o.pos : Nat), y, z])) r o :=
  ⟨x, y, z, upd_same, h2.same (same_new hr), h3.same (same_new hr), h4.same (same_new hr)⟩
theorem row_mk {H1 : Hp} {p fa : Addr} {xs : List V} {st bd : Tx} {fs : List Fld} (hp : H1 p = none) (hN : N fa) (hfa : H1 fa = some (.lst xs)) (h : FldsAt H1 xs fs) :
    RowAt N (upd H1 p (.tup [.str (S st), .ref fa, .str (S bd)])) (.ref p) ⟨st, fs, bd⟩ :=
  ⟨p, fa, xs, rfl, upd_same, hN, same_new hp _ _ hfa, h.mono fun b ys e => same_new hp _ _ e⟩
end
theorem flag_mk {H1 : Hp} {l : Addr} {g : Stg} {y : V} {f : Flt} (hl : H1 l = none) (hy : FltAt H1 y f) : FlagAt (upd H1 l (.lst [stgV g, y])) (.ref l) (some (g, f)) :=
  ⟨l, y, rfl, upd_same, hy.mono fun b ys e => same_new hl _ _ e⟩
theorem flag_non {H : Hp} {x : V} {f : Flag} (h : FlagAt H x f) : decide (x = .non) = decide (f = none) := by
  cases f with
  | none => 
    have h : x = .non := h
    rw [h]; rfl
  | some f =>
    obtain ⟨p, y, e, _⟩ := h
    subst e
    rw [decide_eq_false (by intro z; cases z), decide_eq_false (by intro z; cases z)]
theorem frV_chunks (fr : Option Tx) : decide (frV fr = V.str (PySem.Str.ofString "chunks")) = decide (fr = some chunksT) := by
  cases fr with
  | none => rw [decide_eq_false (by intro z; cases z), decide_eq_false (by intro z; cases z)]
  | some v =>
    show decide (V.str (S v) = _) = _
    rw [dec_T]
    exact decide_eq_decide.mpr ⟨fun z => by rw [z]; rfl, fun z => by injection z⟩
theorem lawBody_eq (b : Bool) (t : Tx) (a : Nat) (st : Tx) (fs : List Fld) (fr : Option Tx) : lawBody (Par b) t a st fs fr =
    (if fr = some chunksT then
      if (lawChunked (Par b) t (t.length + 1) a []).flag ≠ none then ⟨none, (lawChunked (Par b) t (t.length + 1) a []).pos, (lawChunked (Par b) t (t.length + 1) a []).flag, none⟩
      else ⟨some ⟨st, (lawHead (Par b) t st true (t.length + 1) (lawChunked (Par b) t (t.length + 1) a []).pos fs none).fields, (lawChunked (Par b) t (t.length + 1) a []).body⟩,
        (lawHead (Par b) t st true (t.length + 1) (lawChunked (Par b) t (t.length + 1) a []).pos fs none).pos, (lawHead (Par b) t st true (t.length + 1) (lawChunked (Par b) t (t.length + 1) a []).pos fs none).flag, none⟩
    else if fr = none ∧ b = true ∧ mayT st = true then
      if t.length - a > 100000 then ⟨none, a, some (.broken, some (.long, a)), none⟩
      else ⟨none, a, some (.body, none), some [⟨st, fs, t.drop a⟩]⟩
    else
      if t.length - a < bodyLen (Par b) fr then ⟨none, a, some (.body, none), none⟩
      else ⟨some ⟨st, fs, (t.drop a).take (bodyLen (Par b) fr)⟩, a + bodyLen (Par b) fr, none, none⟩) := rfl
section
variable {P : Program} {w : World} {K : PySem.W.Frag} {mg : PySem.Str → Option Value} {base : Heap}
def sp__law_body_read : Sp := fun vs H Q _ => ∃ (N : Addr → Prop) (b : Bool) (t st : Tx) (a : Nat) (fa : Addr) (xs : List V) (fs : List Fld) (fr : Option Tx), vs = [sideV b, .str (S t), .int a, .str (S st), .ref fa, frV fr] ∧ N fa ∧ (∀ x, H x = none → N x) ∧ t.length ≤ 4000000 ∧ a ≤ t.length ∧
  H fa = some (.lst xs) ∧ FldsAt H xs fs ∧ fs.length ≤ 40 ∧ FrOk fr ∧ ∀ H' r, Kp1 fa H H' → OneAt N H' r (lawBody (Par b) t a st fs fr) → Q (.ref r) H'
theorem ok__law_body_read (T : Txt K mg) : Ok P w K mg base CX0 "_law_body_read" 5 ["_law_side", "_law_text", "_law_at", "_law_start", "_law_fields", "_law_frame"] sp__law_body_read := by
  obtain ⟨f, fd, hm, F⟩ := T._law_body_read
  refine ⟨f, fd, hm, F.kp, F.binds fun _ _ _ _ _ _ us hl => match us, hl with | [_, _, _, _, _, _], _ => rfl, F.ok sc__law_body_read (fun vs H Q E h => ?_) (fun cdv A outer s H vs Q E hr h => ?_)⟩
  · obtain ⟨N, b, t, st, a, fa, xs, fs, fr, rfl, _⟩ := h
    rfl
  · obtain ⟨N, b, t, st, a, fa, xs, fs, fr, rfl, nfa, hN, hlt, ha, hfa, hfs, hn, hfr, q⟩ := h
    have hl : t.length ≤ sizeLine := Nat.le_trans hlt (by decide)
    refine ⟨_, pss_cons (ps_if (pt_cmpR op_eq (pv 5) pe_str (nomark _)) (pss_cons (ps_set (i := 7) sc__law_body_read.nd rfl (Or.inl rfl) (pe_callO (ok__law_chunked T) hr rfl (pa_cons (pv 1) (pa_cons (pv 2) pa_nil)))) (pss_cons (ps_if (pt_cmpR op_notN (pe_ix ix_list (pv 7) pe_int (fun _ _ => rfl)) pe_non (nomark _)) (pss_one (ps_ret (pe_lst (pa_cons pe_non (pa_cons (pe_ix ix_list (pv 7) pe_int (fun _ _ => rfl)) (pa_cons (pe_ix ix_list (pv 7) pe_int (fun _ _ => rfl)) (pa_cons pe_non pa_nil))))))) pss_nil) (pss_cons (ps_set (i := 8) sc__law_body_read.nd rfl (Or.inl rfl) (pe_callO (ok__law_head T) hr rfl (pa_cons (pv 1) (pa_cons (pe_ix ix_list (pv 7) pe_int (fun _ _ => rfl)) (pa_cons (pv 3) (pa_cons (pv 4) (pa_cons pe_bl pa_nil))))))) (pss_one (ps_ret (pe_lst (pa_cons (pe_tup (pa_cons (pv 3) (pa_cons (pv 4) (pa_cons (pe_ix ix_list (pv 7) pe_int (fun _ _ => rfl)) pa_nil)))) (pa_cons (pe_ix ix_list (pv 8) pe_int (fun _ _ => rfl)) (pa_cons (pe_ix ix_list (pv 8) pe_int (fun _ _ => rfl)) (pa_cons pe_non pa_nil)))))))))) pss_nil) (pss_cons (ps_if (PW.pt (pw_and (pt_cmpR op_isN (pv 5) pe_non (nomark _)) (pw_and (pt_cmpR op_eq (pv 0) pe_str (nomark _)) (pw_and1 (pt_val (pe_callO (ok__law_may T) hr rfl (pa_cons (pv 3) pa_nil))))))) (pss_cons (ps_if (pt_cmpR op_gt (pe_op op_sub (pe_callB call_len_str rfl T.len (by decide +kernel) (pa_cons (pv 1) pa_nil)) (pv 2)) pe_int (nomark _)) (pss_one (ps_ret (pe_lst (pa_cons pe_non (pa_cons (pv 2) (pa_cons (pe_lst (pa_cons pe_str (pa_cons (pe_tup (pa_cons pe_str (pa_cons (pv 2) pa_nil))) pa_nil))) (pa_cons pe_non pa_nil))))))) pss_nil) (pss_one (ps_ret (pe_lst (pa_cons pe_non (pa_cons (pv 2) (pa_cons (pe_lst (pa_cons pe_str (pa_cons pe_non pa_nil))) (pa_cons (pe_lst (pa_cons (pe_tup (pa_cons (pv 3) (pa_cons (pv 4) (pa_cons (pe_slice sl_str (pv 1) (po_some (pv 2)) po_none) pa_nil)))) pa_nil)) pa_nil)))))))) pss_nil) (pss_cons (ps_set (i := 6) sc__law_body_read.nd rfl (Or.inl rfl) pe_int) (pss_cons (ps_if (pt_cmpR op_notN (pv 5) pe_non (nomark _)) (pss_one (ps_set (i := 6) sc__law_body_read.nd rfl (Or.inl rfl) (pe_callTy call_int_str rfl T.int (by decide +kernel) (pa_cons (pv 5) pa_nil)))) pss_nil) (pss_cons (ps_if (pt_cmpR op_lt (pe_op op_sub (pe_callB call_len_str rfl T.len (by decide +kernel) (pa_cons (pv 1) pa_nil)) (pv 2)) (pv 6) (nomark _)) (pss_one (ps_ret (pe_lst (pa_cons pe_non (pa_cons (pv 2) (pa_cons (pe_lst (pa_cons pe_str (pa_cons pe_non pa_nil))) (pa_cons pe_non pa_nil))))))) pss_nil) (pss_one (ps_ret (pe_lst (pa_cons (pe_tup (pa_cons (pv 3) (pa_cons (pv 4) (pa_cons (pe_slice sl_str (pv 1) (po_some (pv 2)) (po_some (pe_op op_add (pv 2) (pv 6)))) pa_nil)))) (pa_cons (pe_op op_add (pv 2) (pv 6)) (pa_cons pe_non (pa_cons pe_non pa_nil))))))))))), ?_⟩
    have hsc : scal (frV fr) (V.str (PySem.Str.ofString "chunks")) = true := by cases fr <;> rfl
    refine ⟨_, rfl, hsc, _, rfl, ?_⟩
    rw [frV_chunks]
    rw [lawBody_eq] at q
    refine ite2 (fun h1 => ?_) (fun h1 => ?_)
    · have h1 := of_decide_eq_true h1
      rw [if_pos h1] at q
      refine ⟨_, rfl, _, rfl, b, t, a, rfl, hlt, ha, fun H1 r1 s1 n1 c1 => ?_⟩
      have hok := lawChunked_ok (b := b) (t := t) (t.length + 1) a [] ha (Nat.zero_le _)
      generalize lawChunked (Par b) t (t.length + 1) a [] = c at q c1 hok
      obtain ⟨x1, l1, f1⟩ := c1
      refine ⟨_, rfl, r1, _, _, _, rfl, rfl, SqL.of l1, atI_nat (j := 2) rfl, rfl, _, rfl, ?_⟩
      rw [flag_non f1]
      refine ite2 (fun h2 => ?_) (fun h2 => ?_)
      · have h2 : c.flag ≠ none := pn h2
        rw [if_pos h2] at q
        refine ⟨_, rfl, r1, _, _, _, rfl, rfl, SqL.of l1, atI_nat (j := 0) rfl, _, rfl, r1, _, _, _, rfl, rfl, SqL.of l1, atI_nat (j := 2) rfl, by show 4 ≤ sizeLine; decide, fun r hr => ?_⟩
        exact q _ r ((Kp1.refl.same s1).same (same_new hr)) (one_mk (o := ⟨none, c.pos, c.flag, none⟩) hr rfl f1 rfl)
      · have h2 : c.flag = none := pp h2
        rw [if_neg (fun z => z h2)] at q
        have hfa1 := s1 _ _ hfa
        have hne : r1 ≠ fa := fun z => by rw [z, hfa] at n1; cases n1
        refine ⟨_, rfl, _, rfl, r1, _, _, _, rfl, rfl, SqL.of l1, atI_nat (j := 0) rfl, _, rfl, _, rfl, b, t, st, c.pos, fa, xs, fs, true, rfl, hlt, hok.1, hfa1, hfs.mono fun b ys e => s1 _ _ e, hn, fun H2 r2 xs2 k2 hfa2 hfs2 hh2 => ?_⟩
        generalize lawHead (Par b) t st true (t.length + 1) c.pos fs none = h at q hfs2 hh2
        obtain ⟨x2, l2, f2⟩ := hh2
        have l1' := k2 _ _ l1 hne
        refine ⟨_, rfl, _, rfl, _, rfl, r1, _, _, _, rfl, rfl, SqL.of l1', atI_nat (j := 1) rfl, by show 3 ≤ sizeLine; decide, fun p hp => ?_⟩
        have s3 := same_new (o := .tup [.str (S st), .ref fa, .str (S c.body)]) hp
        refine ⟨_, rfl, r2, _, _, _, rfl, rfl, SqL.of (s3 _ _ l2), atI_nat (j := 0) rfl, _, rfl, r2, _, _, _, rfl, rfl, SqL.of (s3 _ _ l2), atI_nat (j := 2) rfl, by show 4 ≤ sizeLine; decide, fun r hr => ?_⟩
        refine q _ r (((Kp1.refl.same s1).trans k2).same (s3.trans (same_new hr))) (one_mk (o := ⟨some ⟨st, h.fields, c.body⟩, h.pos, h.flag, none⟩) hr (row_mk hp nfa hfa2 hfs2) (f2.same s3) rfl)
    · have h1 := nd h1
      rw [if_neg h1] at q
      cases fr with
      | none =>
        refine ⟨_, rfl, rfl, _, rfl, iteT ⟨_, rfl, rfl, _, rfl, ?_⟩⟩
        have rest : ¬ (b = true ∧ mayT st = true) → ∀ H' r, Kp1 fa H H' → OneAt N H' r ⟨some ⟨st, fs, (t.drop a).take 0⟩, a + 0, none, none⟩ → Q (.ref r) H' := fun h2 => by
          rw [if_neg (fun z => h2 z.2), if_neg (show ¬ t.length - a < bodyLen (Par b) none from by show ¬ t.length - a < 0; omega)] at q
          exact q
        cases hb : b with
        | false =>
          have rest := rest (fun z => by rw [hb] at z; cases z.1)
          refine iteF ⟨_, rfl, rfl, _, rfl, iteF ⟨_, rfl, _, rfl, hl, _, rfl, _, _, rfl, rfl, _, rfl, _, _, rfl, rfl, _, rfl, ?_⟩⟩
          rw [S_len, decide_eq_false (show ¬ ((t.length : Nat) : Int) - (a : Nat) < 0 from by omega)]
          refine iteF ⟨_, rfl, _, rfl, _, rfl, _, rfl, _, rfl, _, rfl, _, rfl, _, _, rfl, rfl, _, rfl, _, rfl, hl, by show 3 ≤ sizeLine; decide, fun p hp => ?_⟩
          have ec : cutS (S t) (some ((a : Nat) : Int)) (some (((a : Nat) : Int) + 0)) = S ((t.drop a).take 0) := by
            have := cut_mid t a (a + 0)
            rw [Nat.add_sub_cancel_left] at this
            exact this
          rw [ec]
          have s3 := same_new (o := .tup [.str (S st), .ref fa, .str (S ((t.drop a).take 0))]) hp
          refine ⟨_, rfl, _, rfl, _, _, rfl, rfl, by show 4 ≤ sizeLine; decide, fun r hr => ?_⟩
          exact rest _ r (Kp1.refl.same (s3.trans (same_new hr))) (one_mk (o := ⟨some ⟨st, fs, (t.drop a).take 0⟩, a + 0, none, none⟩) hr (row_mk hp nfa hfa hfs) rfl rfl)
        | true =>
          refine iteT ⟨_, rfl, st, rfl, _, rfl, ?_⟩
          cases hm : mayT st with
          | false =>
            have rest := rest (fun z => by rw [hm] at z; cases z.2)
            refine iteF ⟨_, rfl, rfl, _, rfl, iteF ⟨_, rfl, _, rfl, hl, _, rfl, _, _, rfl, rfl, _, rfl, _, _, rfl, rfl, _, rfl, ?_⟩⟩
            rw [S_len, decide_eq_false (show ¬ ((t.length : Nat) : Int) - (a : Nat) < 0 from by omega)]
            refine iteF ⟨_, rfl, _, rfl, _, rfl, _, rfl, _, rfl, _, rfl, _, rfl, _, _, rfl, rfl, _, rfl, _, rfl, hl, by show 3 ≤ sizeLine; decide, fun p hp => ?_⟩
            have ec : cutS (S t) (some ((a : Nat) : Int)) (some (((a : Nat) : Int) + 0)) = S ((t.drop a).take 0) := by
              have := cut_mid t a (a + 0)
              rw [Nat.add_sub_cancel_left] at this
              exact this
            rw [ec]
            have s3 := same_new (o := .tup [.str (S st), .ref fa, .str (S ((t.drop a).take 0))]) hp
            refine ⟨_, rfl, _, rfl, _, _, rfl, rfl, by show 4 ≤ sizeLine; decide, fun r hr => ?_⟩
            exact rest _ r (Kp1.refl.same (s3.trans (same_new hr))) (one_mk (o := ⟨some ⟨st, fs, (t.drop a).take 0⟩, a + 0, none, none⟩) hr (row_mk hp nfa hfa hfs) rfl rfl)
          | true =>
            rw [if_pos ⟨rfl, hb, hm⟩] at q
            refine iteT ⟨_, rfl, _, rfl, hl, _, rfl, _, _, rfl, rfl, _, _, rfl, rfl, _, rfl, ?_⟩
            rw [S_len]
            refine ite2 (fun h2 => ?_) (fun h2 => ?_)
            · have h2 := of_decide_eq_true h2
              rw [if_pos (by omega)] at q
              refine ⟨_, rfl, _, rfl, by show 2 ≤ sizeLine; decide, fun p hp => ⟨by show 2 ≤ sizeLine; decide, fun l hl' => ⟨by show 4 ≤ sizeLine; decide, fun r hr => ?_⟩⟩⟩
              exact q _ r (((Kp1.refl.same (same_new hp)).same (same_new hl')).same (same_new hr)) (one_mk (o := ⟨none, a, some (.broken, some (.long, a)), none⟩) hr rfl (flag_mk (g := .broken) (f := some (.long, a)) hl' ⟨p, rfl, upd_same⟩) rfl)
            · have h2 := nd h2
              rw [if_neg (by omega)] at q
              refine ⟨_, rfl, by show 2 ≤ sizeLine; decide, fun l hl' => ⟨_, rfl, _, rfl, _, rfl, _, rfl, _, rfl, _, rfl, hl, by show 3 ≤ sizeLine; decide, fun p hp => ?_⟩⟩
              rw [cut_from]
              have s1 := same_new (o := .lst [stgV .body, .non]) hl'
              refine ⟨by show 1 ≤ sizeLine; decide, fun m hm' => ⟨by show 4 ≤ sizeLine; decide, fun r hr => ?_⟩⟩
              have s2 := same_new (o := .tup [.str (S st), .ref fa, .str (S (t.drop a))]) hp
              have s3 := same_new (o := .lst [.ref p]) hm'
              exact q _ r ((((Kp1.refl.same s1).same s2).same s3).same (same_new hr)) (one_mk (o := ⟨none, a, some (.body, none), some [⟨st, fs, t.drop a⟩]⟩) hr rfl ((flag_mk (g := .body) (f := none) hl' rfl).same (s2.trans s3))
                ⟨m, _, rfl, hN _ ((s1.trans s2).free hm'), upd_same, .cons ((row_mk hp nfa (s1 _ _ hfa) (hfs.mono fun b ys e => s1 _ _ e)).same s3) .nil⟩)
      | some v =>
        rw [if_neg (fun z => by cases z.1)] at q
        rcases hfr v rfl with hv | ⟨k, hk, hk2⟩
        · exact absurd (by rw [hv]) h1
        · have hbl : bodyLen (Par b) (some v) = k := by
            show (numT v).getD 0 = k
            rw [hk]; rfl
          rw [hbl] at q
          have hvl := numT_len hk
          refine ⟨_, rfl, rfl, _, rfl, iteF ⟨_, rfl, rfl, _, rfl, iteT ⟨_, rfl, _, _, rfl, numT_int hk, by rw [S_len]; omega, _, rfl, _, rfl, hl, _, rfl, _, _, rfl, rfl, _, rfl, _, _, rfl, rfl, _, rfl, ?_⟩⟩⟩
          rw [S_len]
          refine ite2 (fun h2 => ?_) (fun h2 => ?_)
          · have h2 := of_decide_eq_true h2
            rw [if_pos (by omega)] at q
            refine ⟨_, rfl, by show 2 ≤ sizeLine; decide, fun l hl' => ⟨by show 4 ≤ sizeLine; decide, fun r hr => ?_⟩⟩
            exact q _ r ((Kp1.refl.same (same_new hl')).same (same_new hr)) (one_mk (o := ⟨none, a, some (.body, none), none⟩) hr rfl (flag_mk (g := .body) (f := none) hl' rfl) rfl)
          · have h2 := nd h2
            rw [if_neg (by omega)] at q
            refine ⟨_, rfl, _, rfl, _, rfl, _, rfl, _, rfl, _, rfl, _, rfl, _, _, rfl, rfl, _, rfl, _, rfl, hl, by show 3 ≤ sizeLine; decide, fun p hp => ?_⟩
            have ec : cutS (S t) (some ((a : Nat) : Int)) (some (((a : Nat) : Int) + (k : Nat))) = S ((t.drop a).take k) := by
              have := cut_mid t a (a + k)
              rw [Nat.add_sub_cancel_left] at this
              exact this
            rw [ec]
            have s3 := same_new (o := .tup [.str (S st), .ref fa, .str (S ((t.drop a).take k))]) hp
            refine ⟨_, rfl, _, rfl, _, _, rfl, rfl, by show 4 ≤ sizeLine; decide, fun r hr => ?_⟩
            exact q _ r (Kp1.refl.same (s3.trans (same_new hr))) (one_mk (o := ⟨some ⟨st, fs, (t.drop a).take k⟩, a + k, none, none⟩) hr (row_mk hp nfa hfa hfs) rfl rfl)
end
end K6

set_option Elab.async false
set_option linter.all false
set_option maxRecDepth 100000
set_option maxHeartbeats 4000000
/-! KW10: the law's reading of a text. -/
namespace K6
open PySem PySem.Spec PyProof.Rows L2
theorem lawSkip_pos {t : Tx} : ∀ (f a : Nat), a ≤ t.length → lawSkip t f a ≤ t.length
  | 0, a, ha => ha
  | f + 1, a, ha => by
    unfold lawSkip
    split
    · rename_i h
      exact lawSkip_pos f _ (lawLine_ln ha h).1
    · exact ha
theorem lawSkip_stop {t : Tx} (f a : Nat) (h : lawLine t a ≠ .ln []) : lawSkip t f a = a := by
  cases f with
  | zero => rfl
  | succ f =>
    unfold lawSkip
    split
    · rename_i e; exact absurd e h
    · rfl
theorem lawBody_pos {b : Bool} {t st : Tx} {a : Nat} {fs : List Fld} {fr : Option Tx} (ha : a ≤ t.length) : (lawBody (Par b) t a st fs fr).pos ≤ t.length := by
  rw [lawBody_eq]
  have h1 := (lawChunked_ok (b := b) (t := t) (t.length + 1) a [] ha (Nat.zero_le _)).1
  split
  · split
    · exact h1
    · exact lawHead_pos _ _ _ _ h1
  · split
    · split
      · exact ha
      · exact ha
    · split
      · exact ha
      · dsimp only
        omega
theorem lawBody_row {b : Bool} {t st : Tx} {a : Nat} {fs : List Fld} {fr : Option Tx} (h : (lawBody (Par b) t a st fs fr).flag = none) : (lawBody (Par b) t a st fs fr).row ≠ none := by
  rw [lawBody_eq] at h ⊢
  split at h
  · rename_i c
    rw [if_pos c]
    split at h
    · rename_i d
      exact absurd h d
    · rename_i d
      rw [if_neg d]
      simp
  · rename_i c
    rw [if_neg c]
    split at h
    · rename_i d
      rw [if_pos d]
      split at h <;> cases h
    · rename_i d
      rw [if_neg d]
      split at h
      · cases h
      · rename_i e
        rw [if_neg e]
        simp
theorem lawOne_eq (b : Bool) (t : Tx) (a0 : Nat) : lawOne (Par b) t a0 =
    (match lawLine t (lawSkip t (t.length + 1) a0) with
    | .inc => if lawSkip t (t.length + 1) a0 = t.length then ⟨none, lawSkip t (t.length + 1) a0, some (.start, none), some []⟩ else ⟨none, lawSkip t (t.length + 1) a0, some (.start, none), none⟩
    | .bad => ⟨none, lawSkip t (t.length + 1) a0, some (.broken, some (.long, (lawSkip t (t.length + 1) a0 : Nat))), none⟩
    | .ln l =>
      if startOkT b l = false then ⟨none, lawSkip t (t.length + 1) a0, some (.broken, some (.start, (lawSkip t (t.length + 1) a0 : Nat))), none⟩
      else if (lawHead (Par b) t l false (t.length + 1) (lawSkip t (t.length + 1) a0 + l.length + 1) [] none).flag ≠ none then
        ⟨none, (lawHead (Par b) t l false (t.length + 1) (lawSkip t (t.length + 1) a0 + l.length + 1) [] none).pos, (lawHead (Par b) t l false (t.length + 1) (lawSkip t (t.length + 1) a0 + l.length + 1) [] none).flag, none⟩
      else lawBody (Par b) t (lawHead (Par b) t l false (t.length + 1) (lawSkip t (t.length + 1) a0 + l.length + 1) [] none).pos l
        (lawHead (Par b) t l false (t.length + 1) (lawSkip t (t.length + 1) a0 + l.length + 1) [] none).fields (lawHead (Par b) t l false (t.length + 1) (lawSkip t (t.length + 1) a0 + l.length + 1) [] none).frame) := rfl
theorem lawOne_pos {b : Bool} {t : Tx} {a : Nat} (ha : a ≤ t.length) : (lawOne (Par b) t a).pos ≤ t.length := by
  have hs := lawSkip_pos (t.length + 1) a ha
  rw [lawOne_eq]
  split
  · split <;> exact hs
  · exact hs
  · rename_i l hl
    have h1 := (lawLine_ln hs hl).1
    split
    · exact hs
    · have h2 := lawHead_pos (b := b) (t := t) (st := l) (tr := false) (t.length + 1) _ [] none h1
      split
      · exact h2
      · exact lawBody_pos h2
theorem lawOne_row {b : Bool} {t : Tx} {a : Nat} (h : (lawOne (Par b) t a).flag = none) : (lawOne (Par b) t a).row ≠ none := by
  rw [lawOne_eq] at h ⊢
  split at h
  · split at h <;> cases h
  · cases h
  · rename_i l hl
    split at h
    · cases h
    · rename_i c
      split at h
      · rename_i d; exact absurd h d
      · rename_i d
        rw [if_neg c, if_neg d]
        exact lawBody_row h
noncomputable instance : DecidableEq LL := fun _ _ => Classical.propDecidable _
/-- a for that may break: R holds behind it -/
theorem for_itB {J : It} {n : Nat} {G : Hp → Prop} {Y : Nat → Hp → V → Hp → Prop} (w : Walk J n G Y) {g : TG} {tb : TS} {D : Ends} {σ : L2.St} {H : Hp} (Pv : Nat → L2.St → Hp → Prop) (R : L2.St → Hp → Prop) (h0 : Pv 0 σ H) (hG : ∀ i σ H, i ≤ n → Pv i σ H → G H)
    (hfin : ∀ σ H, R σ H → D.nx σ H)
    (hs : (∀ σ H, R σ H → D.nx σ H) → ∀ i x σ H H', i < n → Pv i σ H → Y i H x H' → g x σ H' fun σ2 H2 => tb { D with nx := Pv (i + 1), ct := Pv (i + 1), bk := D.nx } σ2 H2) (hd : ∀ σ H, Pv n σ H → R σ H) :
    ∃ W : Nat → Nat → L2.St → Hp → Prop, (∃ m, W 0 m σ H) ∧ ∀ i m σ H, W i m σ H →
      (J.stop i H ∧ D.nx σ H) ∨ (J.go i H ∧ ∃ N : L2.St → Hp → Prop, (∀ σ' H', N σ' H' → ∃ m', m' < m ∧ W (i + 1) m' σ' H') ∧ ∀ x H', J.yld i H x H' → g x σ H' fun σ2 H2 => tb { D with nx := N, ct := N, bk := D.nx } σ2 H2) :=
  for_it w Pv h0 hG (hs hfin) fun σ H p => hfin _ _ (hd σ H p)
theorem kp_new {H H' : Hp} {l : Addr} {o : HO} (hl : H l = none) (k : Kp1 l (upd H l o) H') : Same H H' := fun b x e =>
  k b x (by rw [upd_ne (ne_of_none e hl)]; exact e) (ne_of_none e hl)
section
variable {P : Program} {w : World} {K : PySem.W.Frag} {mg : PySem.Str → Option Value} {base : Heap}
theorem ne_lineV (L : LL) : scal (lineV L) (V.str (PySem.Str.ofString "")) = true ∧ decide (lineV L = V.str (PySem.Str.ofString "")) = decide (L = .ln []) := by
  cases L with
  | inc => exact ⟨rfl, by rw [decide_eq_false (by intro z; cases z), decide_eq_false (by intro z; cases z)]⟩
  | bad => exact ⟨rfl, by rw [decide_eq_false (by intro z; cases z), decide_eq_false (by intro z; cases z)]⟩
  | ln l =>
    refine ⟨rfl, ?_⟩
    show decide (V.str (S l) = _) = _
    rw [dec_emp]
    exact decide_eq_decide.mpr ⟨fun z => by rw [z], fun z => by injection z⟩
def sp__law_one : Sp := fun vs H Q _ => ∃ (b : Bool) (t : Tx) (a : Nat), vs = [sideV b, .str (S t), .int a] ∧ t.length ≤ 4000000 ∧ a ≤ t.length ∧ ∀ H' r, Same H H' → OneAt (fun x => H x = none) H' r (lawOne (Par b) t a) → Q (.ref r) H'
theorem ok__law_one (T : Txt K mg) : Ok P w K mg base CX0 "_law_one" 6 ["_law_side", "_law_text", "_law_at"] sp__law_one := by
  obtain ⟨f, fd, hm, F⟩ := T._law_one
  refine ⟨f, fd, hm, F.kp, F.binds fun _ _ _ _ _ _ us hl => match us, hl with | [_, _, _], _ => rfl, F.ok sc__law_one (fun vs H Q E h => ?_) (fun cdv A outer s H vs Q E hr h => ?_)⟩
  · obtain ⟨b, t, a, rfl, _⟩ := h
    rfl
  · obtain ⟨b, t, a0, rfl, hlt, ha0, q⟩ := h
    have hl : t.length ≤ sizeLine := Nat.le_trans hlt (by decide)
    refine ⟨_, pss_cons (ps_set (i := 3) sc__law_one.nd rfl (Or.inl rfl) (pe_callO (ok__law_line T) hr rfl (pa_cons (pv 1) (pa_cons (pv 2) pa_nil)))) (pss_cons (ps_for PassesOwn.never rfl (pi_range1 rfl T.range (pa_cons (pe_op op_add (pe_callB call_len_str rfl T.len (by decide +kernel) (pa_cons (pv 1) pa_nil)) pe_int) pa_nil)) (pg_name (i := 4) sc__law_one.nd rfl (Or.inl rfl)) (pss_cons (ps_if (pt_cmpR op_ne (pv 3) pe_str (nomark _)) (pss_one ps_break) pss_nil) (pss_cons (ps_set (i := 2) sc__law_one.nd rfl (Or.inl rfl) (pe_op op_add (pv 2) pe_int)) (pss_one (ps_set (i := 3) sc__law_one.nd rfl (Or.inl rfl) (pe_callO (ok__law_line T) hr rfl (pa_cons (pv 1) (pa_cons (pv 2) pa_nil)))))))) (pss_cons (ps_if (PW.pt (pw_and (pt_cmpR op_isN (pv 3) pe_non (nomark _)) (pw_and1 (pt_cmpR op_eq (pv 2) (pe_callB call_len_str rfl T.len (by decide +kernel) (pa_cons (pv 1) pa_nil)) (nomark _))))) (pss_one (ps_ret (pe_lst (pa_cons pe_non (pa_cons (pv 2) (pa_cons (pe_lst (pa_cons pe_str (pa_cons pe_non pa_nil))) (pa_cons (pe_lst pa_nil) pa_nil))))))) pss_nil) (pss_cons (ps_if (pt_cmpR op_isN (pv 3) pe_non (nomark _)) (pss_one (ps_ret (pe_lst (pa_cons pe_non (pa_cons (pv 2) (pa_cons (pe_lst (pa_cons pe_str (pa_cons pe_non pa_nil))) (pa_cons pe_non pa_nil))))))) pss_nil) (pss_cons (ps_if (pt_cmpR op_isF (pv 3) pe_bl (nomark _)) (pss_one (ps_ret (pe_lst (pa_cons pe_non (pa_cons (pv 2) (pa_cons (pe_lst (pa_cons pe_str (pa_cons (pe_tup (pa_cons pe_str (pa_cons (pv 2) pa_nil))) pa_nil))) (pa_cons pe_non pa_nil))))))) pss_nil) (pss_cons (ps_if (pt_not (pt_val (pe_callO (ok__law_starts T) hr rfl (pa_cons (pv 0) (pa_cons (pv 3) pa_nil))))) (pss_one (ps_ret (pe_lst (pa_cons pe_non (pa_cons (pv 2) (pa_cons (pe_lst (pa_cons pe_str (pa_cons (pe_tup (pa_cons pe_str (pa_cons (pv 2) pa_nil))) pa_nil))) (pa_cons pe_non pa_nil))))))) pss_nil) (pss_cons (ps_set (i := 5) sc__law_one.nd rfl (Or.inl rfl) (pe_lst pa_nil)) (pss_cons (ps_set (i := 6) sc__law_one.nd rfl (Or.inl rfl) (pe_callO (ok__law_head T) hr rfl (pa_cons (pv 1) (pa_cons (pe_op op_add (pe_op op_add (pv 2) (pe_callB call_len_str rfl T.len (by decide +kernel) (pa_cons (pv 3) pa_nil))) pe_int) (pa_cons (pv 3) (pa_cons (pv 5) (pa_cons pe_bl pa_nil))))))) (pss_cons (ps_if (pt_cmpR op_notN (pe_ix ix_list (pv 6) pe_int (fun _ _ => rfl)) pe_non (nomark _)) (pss_one (ps_ret (pe_lst (pa_cons pe_non (pa_cons (pe_ix ix_list (pv 6) pe_int (fun _ _ => rfl)) (pa_cons (pe_ix ix_list (pv 6) pe_int (fun _ _ => rfl)) (pa_cons pe_non pa_nil))))))) pss_nil) (pss_one (ps_ret (pe_callO (ok__law_body_read T) hr rfl (pa_cons (pv 0) (pa_cons (pv 1) (pa_cons (pe_ix ix_list (pv 6) pe_int (fun _ _ => rfl)) (pa_cons (pv 3) (pa_cons (pv 5) (pa_cons (pe_ix ix_list (pv 6) pe_int (fun _ _ => rfl)) pa_nil))))))))))))))))), ?_⟩
    rw [lawOne_eq] at q
    have hsp := lawSkip_pos (t.length + 1) a0 ha0
    generalize hsk : lawSkip t (t.length + 1) a0 = aS at q hsp
    refine ⟨_, rfl, _, rfl, t, a0, rfl, hl, ha0, ?_⟩
    refine ⟨_, rfl, _, rfl, hl, _, _, rfl, rfl, _, rfl, by rw [S_len]; have : t.length ≤ 16777216 := hl; omega, by rw [S_len]; have : t.length ≤ 16777216 := hl; omega, ?_⟩
    rw [S_len, show ((t.length : Nat) : Int) + 1 = ((t.length + 1 : Nat) : Int) from rfl, Int.toNat_natCast]
    refine for_itB (n := t.length + 1) (G := fun _ => True) walk_range (fun i σ H' => ∃ (a : Nat) (v4 v5 v6 : Option V),
        σ = [some (sideV b), some (.str (S t)), some (.int a), some (lineV (lawLine t a)), v4, v5, v6] ∧ H' = H ∧ a ≤ t.length ∧ lawSkip t (t.length + 1 - i) a = aS)
      (fun σ H' => ∃ (v4 v5 v6 : Option V), σ = [some (sideV b), some (.str (S t)), some (.int aS), some (lineV (lawLine t aS)), v4, v5, v6] ∧ H' = H)
      ⟨a0, _, _, _, rfl, rfl, ha0, hsk⟩ (fun _ _ _ _ _ => trivial) ?_ ?_ ?_
    · rintro σ H1 ⟨v4, v5, v6, rfl, rfl⟩
      cases hline : lawLine t aS with
      | inc =>
        rw [hline] at q
        dsimp only at q
        refine ⟨_, rfl, rfl, _, rfl, iteT ⟨_, rfl, _, rfl, _, rfl, hl, rfl, _, rfl, ?_⟩⟩
        rw [S_len, lenD]
        refine ite2 (fun h1 => ?_) (fun h1 => ?_)
        · have h1 := of_decide_eq_true h1
          rw [if_pos h1] at q
          refine ⟨_, rfl, by show 2 ≤ sizeLine; decide, fun l hl' => ⟨by show 0 ≤ sizeLine; decide, fun m hm' => ⟨by show 4 ≤ sizeLine; decide, fun r hr => ?_⟩⟩⟩
          exact q _ r (((same_new hl').trans (same_new hm')).trans (same_new hr)) (one_mk (o := ⟨none, aS, some (.start, none), some []⟩) hr rfl ((flag_mk (g := .start) (f := none) hl' rfl).same (same_new hm')) ⟨m, [], rfl, (same_new hl').free hm', upd_same, .nil⟩)
        · have h1 := nd h1
          rw [if_neg h1] at q
          refine ⟨_, rfl, rfl, _, rfl, iteT ⟨_, rfl, by show 2 ≤ sizeLine; decide, fun l hl' => ⟨by show 4 ≤ sizeLine; decide, fun r hr => ?_⟩⟩⟩
          exact q _ r ((same_new hl').trans (same_new hr)) (one_mk (o := ⟨none, aS, some (.start, none), none⟩) hr rfl (flag_mk (g := .start) (f := none) hl' rfl) rfl)
      | bad =>
        rw [hline] at q
        dsimp only at q
        refine ⟨_, rfl, rfl, _, rfl, iteF ⟨_, rfl, rfl, _, rfl, iteF ⟨_, rfl, rfl, .inl ⟨rfl, _, rfl, iteT ⟨_, rfl, _, rfl, by show 2 ≤ sizeLine; decide, fun p hp => ⟨by show 2 ≤ sizeLine; decide, fun l hl' => ⟨by show 4 ≤ sizeLine; decide, fun r hr => ?_⟩⟩⟩⟩⟩⟩⟩
        exact q _ r (((same_new hp).trans (same_new hl')).trans (same_new hr)) (one_mk (o := ⟨none, aS, some (.broken, some (.long, aS)), none⟩) hr rfl (flag_mk (g := .broken) (f := some (.long, aS)) hl' ⟨p, rfl, upd_same⟩) rfl)
      | ln l =>
        rw [hline] at q
        dsimp only at q
        obtain ⟨hp1, hp2⟩ := lawLine_ln hsp hline
        have hl1 : l.length ≤ sizeLine := Nat.le_trans hp2 (by decide)
        refine ⟨_, rfl, rfl, _, rfl, iteF ⟨_, rfl, rfl, _, rfl, iteF ⟨_, rfl, rfl, .inr ⟨.inl ⟨_, rfl⟩, _, rfl, iteF ⟨_, rfl, _, rfl, b, l, rfl, by omega, fun H1 s1 => ⟨_, rfl, ?_⟩⟩⟩⟩⟩⟩
        cases hst : startOkT b l with
        | false =>
          rw [if_pos hst] at q
          refine iteT ⟨_, rfl, _, rfl, by show 2 ≤ sizeLine; decide, fun p hp => ⟨by show 2 ≤ sizeLine; decide, fun l hl' => ⟨by show 4 ≤ sizeLine; decide, fun r hr => ?_⟩⟩⟩
          exact q _ r (((s1.trans (same_new hp)).trans (same_new hl')).trans (same_new hr)) (one_mk (o := ⟨none, aS, some (.broken, some (.start, aS)), none⟩) hr rfl (flag_mk (g := .broken) (f := some (.start, aS)) hl' ⟨p, rfl, upd_same⟩) rfl)
        | true =>
          rw [if_neg (by rw [hst]; simp)] at q
          refine iteF ⟨by show 0 ≤ sizeLine; decide, fun fa hfa => ?_⟩
          refine ⟨_, rfl, _, rfl, _, rfl, _, rfl, hl1, _, _, rfl, rfl, _, _, rfl, rfl, _, rfl, _, rfl, b, t, l, aS + l.length + 1, fa, [], [], false, ?_, hlt, hp1, upd_same, .nil, Nat.zero_le _, fun H2 r2 xs2 k2 hfa2 hfs2 hh2 => ?_⟩
          · rw [S_len]
            rfl
          have hpos := lawHead_pos (b := b) (t := t) (st := l) (tr := false) (t.length + 1) (aS + l.length + 1) [] none hp1
          have hmany := lawHead_many (b := b) (t := t) (st := l) (tr := false) (t.length + 1) (aS + l.length + 1) [] none (Nat.zero_le _)
          have hfr := lawHead_frame (b := b) (t := t) (st := l) (tr := false) (t.length + 1) (aS + l.length + 1) [] none (fun v z => by cases z)
          generalize lawHead (Par b) t l false (t.length + 1) (aS + l.length + 1) [] none = h at q hfs2 hh2 hpos hmany hfr
          have s2 := s1.trans (kp_new hfa k2)
          obtain ⟨x2, l2, f2⟩ := hh2
          refine ⟨_, rfl, r2, _, _, _, rfl, rfl, SqL.of l2, atI_nat (j := 2) rfl, rfl, _, rfl, ?_⟩
          rw [flag_non f2]
          refine ite2 (fun h2 => ?_) (fun h2 => ?_)
          · have h2 := pn h2
            rw [if_pos h2] at q
            refine ⟨_, rfl, r2, _, _, _, rfl, rfl, SqL.of l2, atI_nat (j := 0) rfl, _, rfl, r2, _, _, _, rfl, rfl, SqL.of l2, atI_nat (j := 2) rfl, by show 4 ≤ sizeLine; decide, fun r hr => ?_⟩
            exact q _ r (s2.trans (same_new hr)) (one_mk (o := ⟨none, h.pos, h.flag, none⟩) hr rfl f2 rfl)
          · have h2 := pp h2
            rw [if_neg (fun z => z h2)] at q
            refine ⟨_, rfl, _, rfl, _, rfl, r2, _, _, _, rfl, rfl, SqL.of l2, atI_nat (j := 0) rfl, _, rfl, _, rfl, _, rfl, r2, _, _, _, rfl, rfl, SqL.of l2, atI_nat (j := 1) rfl, _, b, t, l, h.pos, fa, xs2, h.fields, h.frame, rfl, s1.free hfa, fun x hx => s2.free hx, hlt, hpos, hfa2, hfs2, hmany, hfr, fun H3 r3 k3 o3 => ?_⟩
            refine q _ r3 (s1.trans (kp_new hfa (k2.trans k3))) o3
    · rintro hB i x σ H1 H2 hi ⟨a, v4, v5, v6, rfl, rfl, ha, he⟩ ⟨rfl, rfl⟩
      rw [show t.length + 1 - i = (t.length - i) + 1 from by omega] at he
      obtain ⟨e1, e2⟩ := ne_lineV (lawLine t a)
      refine ⟨_, rfl, e1, _, rfl, ?_⟩
      rw [e2]
      refine ite2 (fun h1 => ?_) (fun h1 => ?_)
      · have h1 := pn h1
        rw [lawSkip_stop _ _ h1] at he
        subst he
        exact hB _ _ ⟨_, _, _, rfl, rfl⟩
      · have h1 := pp h1
        unfold lawSkip at he
        rw [h1] at he
        dsimp only at he
        have hp1 := (lawLine_ln ha h1).1
        refine ⟨_, rfl, _, _, rfl, rfl, ?_⟩
        refine ⟨_, rfl, _, rfl, t, a + 1, rfl, hl, hp1, ?_⟩
        refine ⟨a + 1, _, _, _, rfl, rfl, hp1, ?_⟩
        rw [show t.length + 1 - (i + 1) = t.length - i from by omega]
        exact he
    · rintro σ H1 ⟨a, v4, v5, v6, rfl, rfl, ha, he⟩
      rw [Nat.sub_self] at he
      have he : a = aS := he
      subst he
      exact ⟨_, _, _, rfl, rfl⟩
end
end K6

set_option Elab.async false
set_option linter.all false
set_option maxRecDepth 100000
set_option maxHeartbeats 4000000
/-! KW11: the law's reading of a text, and of its end. -/
namespace K6
open PySem PySem.Spec PyProof.Rows L2
theorem badAt_cons (b : Bool) (c : Nat) (r : Tx) : badAt (Par b) (c :: r) = if c ≠ 10 ∧ isPlain c = false then 0 else badAt (Par b) r + 1 := rfl
theorem signs_nl (c : Nat) : decide (c ∈ signsT ++ [10]) = !(decide (c ≠ 10) && !isPlain c) := by
  rw [← signs_plain]
  by_cases h1 : c ∈ signsT
  · simp [h1]
  · by_cases h2 : c = 10
    · simp [h2]
    · simp [h1, h2]
theorem OneAt.weak {N N' : Addr → Prop} {H : Hp} {r : Addr} {o : OR} (h : OneAt N H r o) (s : ∀ a, N a → N' a) : OneAt N' H r o := by
  obtain ⟨x, y, z, h1, h2, h3, h4⟩ := h
  refine ⟨x, y, z, h1, ?_, h3, h4.weak s⟩
  cases hr : o.row with
  | none => rw [hr] at h2; exact h2
  | some row => rw [hr] at h2; exact RowAt.weak h2 s
/-- a list grown elsewhere -/
theorem RowAt.put {N : Addr → Prop} {H : Hp} {x : V} {r : Row} {l : Addr} {ys zs : List V} (h : RowAt N H x r) (hl : H l = some (.lst ys)) (hn : ¬ N l) : RowAt N (upd H l (.lst zs)) x r := by
  obtain ⟨p, fa, xs, e, h1, h4, h2, h3⟩ := h
  refine ⟨p, fa, xs, e, put_tup hl _ _ h1, h4, ?_, h3.mono (put_tup hl)⟩
  rw [upd_ne (fun z => hn (by rw [← z]; exact h4))]
  exact h2
theorem RowsAt.put {N : Addr → Prop} {H : Hp} {x : List V} {r : List Row} {l : Addr} {ys zs : List V} (h : RowsAt N H x r) (hl : H l = some (.lst ys)) (hn : ¬ N l) : RowsAt N (upd H l (.lst zs)) x r := Paired.mapP h fun _ _ k => k.put hl hn
theorem RowsAt.snoc {N : Addr → Prop} {H : Hp} {x : V} {f : Row} (hf : RowAt N H x f) : ∀ {xs : List V} {fs : List Row}, RowsAt N H xs fs → RowsAt N H (xs ++ [x]) (fs ++ [f])
  | _, _, .nil => .cons hf .nil
  | _, _, .cons h r => .cons h (RowsAt.snoc hf r)
def ReadAt (N : Addr → Prop) (H : Hp) (r : Addr) (rr : RR) : Prop := ∃ p xs y z, H r = some (.lst [.ref p, stgV rr.stage, y, z]) ∧ N r ∧ N p ∧ H p = some (.lst xs) ∧ RowsAt N H xs rr.rows ∧ FltAt H y rr.fault ∧ OpnAt N H z rr.opn
def EndAt (N : Addr → Prop) (H : Hp) (r : Addr) (er : ER) : Prop := ∃ p q xs ys y, H r = some (.lst [.ref p, .ref q, stgV er.stage, y]) ∧ N r ∧ N p ∧ N q ∧ H p = some (.lst xs) ∧ RowsAt N H xs er.rows ∧ H q = some (.lst ys) ∧ RowsAt N H ys er.more ∧ FltAt H y er.fault
theorem read_flag (b : Bool) (t : Tx) : ∃ f, (lawAll (Par b) (t.take (badAt (Par b) t)) ((t.take (badAt (Par b) t)).length + 1) (lawOne (Par b) (t.take (badAt (Par b) t)) 0) []).2.flag = some f := by
  obtain ⟨f, _, _, h, _⟩ := all_run (P := Par b) (badAt_good (P := Par b) t) ((t.take (badAt (Par b) t)).length + 1) 0 0 [] (by omega) (Nat.zero_le _)
  exact ⟨f, h⟩
theorem flt_non {H : Hp} {x : V} {f : Flt} (h : FltAt H x f) : decide (x = .non) = decide (f = none) := by
  cases f with
  | none =>
    have h : x = .non := h
    rw [h]; rfl
  | some f =>
    obtain ⟨p, e, _⟩ := h
    subst e
    rw [decide_eq_false (by intro z; cases z), decide_eq_false (by intro z; cases z)]
section
variable {P : Program} {w : World} {K : PySem.W.Frag} {mg : PySem.Str → Option Value} {base : Heap}
def sp__law_bad_sign : Sp := fun vs H Q _ => ∃ (b : Bool) (t : Tx), vs = [.str (S t)] ∧ t.length ≤ sizeLine ∧ Q (.int (badAt (Par b) t : Nat)) H
theorem ok__law_bad_sign (T : Txt K mg) : Ok P w K mg base CX0 "_law_bad_sign" 2 ["_law_text"] sp__law_bad_sign := by
  obtain ⟨f, fd, hm, F⟩ := T._law_bad_sign
  refine ⟨f, fd, hm, F.kp, F.binds fun _ _ _ _ _ _ us hl => match us, hl with | [_], _ => rfl, F.ok sc__law_bad_sign (fun vs H Q E h => ?_) (fun cdv A outer s H vs Q E hr h => ?_)⟩
  · obtain ⟨b, t, rfl, _⟩ := h
    rfl
  · obtain ⟨b, t, rfl, hl, q⟩ := h
    refine ⟨_, pss_cons (ps_set (i := 1) sc__law_bad_sign.nd rfl (Or.inl rfl) (pe_op op_add_str (pe_callO0 (ok__law_signs T) hr rfl) pe_str)) (pss_cons (ps_for PassesOwn.never rfl (pi_range1 rfl T.range (pa_cons (pe_callB call_len_str rfl T.len (by decide +kernel) (pa_cons (pv 0) pa_nil)) pa_nil)) (pg_name (i := 2) sc__law_bad_sign.nd rfl (Or.inl rfl)) (pss_one (ps_if (pt_cmpR op_notIn_sign (pe_ix ix_str (pv 0) (pv 2) (fun _ _ => rfl)) (pv 1) (by rfl)) (pss_one (ps_ret (pv 2))) pss_nil))) (pss_one (ps_ret (pe_callB call_len_str rfl T.len (by decide +kernel) (pa_cons (pv 0) pa_nil))))), ?_⟩
    refine ⟨rfl, _, _, rfl, rfl, by decide +kernel, ?_⟩
    rw [add_S signsT "\n" (signsT ++ [10]) (by rw [show K6.T "\n" = [10] from by decide +kernel])]
    have hl' : t.length ≤ 16777216 := hl
    refine ⟨_, rfl, _, rfl, hl, _, rfl, by rw [S_len]; omega, by rw [S_len]; omega, ?_⟩
    rw [S_len, Int.toNat_natCast]
    refine for_it (n := t.length) (G := fun _ => True) walk_range (fun i σ H' => ∃ v, σ = [some (.str (S t)), some (.str (S (signsT ++ [10]))), v] ∧ H' = H ∧ badAt (Par b) t = i + badAt (Par b) (t.drop i)) ⟨_, rfl, rfl, by simp⟩ (fun _ _ _ _ _ => trivial) ?_ ?_
    · rintro i x σ H1 H2 hi ⟨v, rfl, rfl, ha⟩ ⟨rfl, rfl⟩
      have hi' : t[i]? = some t[i] := List.getElem?_eq_getElem hi
      rw [List.drop_eq_getElem_cons hi, badAt_cons] at ha
      refine ⟨_, rfl, _, rfl, _, _, t[i], rfl, rfl, hl, ?_, _, rfl, _, _, rfl, rfl, _, rfl, ?_⟩
      · rw [Int.zero_add]
        exact atI_nat hi'
      · rw [inS_dec, signs_nl, Bool.not_not]
        refine ite2 (fun h1 => ?_) (fun h1 => ?_)
        · rw [if_pos (by simpa using h1)] at ha
          refine ⟨_, rfl, ?_⟩
          rw [ha] at q
          simpa using q
        · rw [if_neg (fun z => h1 (by simpa using z))] at ha
          exact ⟨_, rfl, rfl, by omega⟩
    · rintro σ H1 ⟨v, rfl, rfl, ha⟩
      rw [List.drop_length] at ha
      refine ⟨_, rfl, _, rfl, hl, ?_⟩
      rw [S_len]
      rw [ha] at q
      exact q
def sp__law_reading : Sp := fun vs H Q _ => ∃ (b : Bool) (t : Tx), vs = [sideV b, .str (S t)] ∧ t.length ≤ 4000000 ∧ ∀ H' r, Same H H' → ReadAt (fun x => H x = none) H' r (reading (Par b) t) → Q (.ref r) H'
theorem ok__law_reading (T : Txt K mg) : Ok P w K mg base CX0 "_law_reading" 7 ["_law_side", "_law_text"] sp__law_reading := by
  obtain ⟨f, fd, hm, F⟩ := T._law_reading
  refine ⟨f, fd, hm, F.kp, F.binds fun _ _ _ _ _ _ us hl => match us, hl with | [_, _], _ => rfl, F.ok sc__law_reading (fun vs H Q E h => ?_) (fun cdv A outer s H vs Q E hr h => ?_)⟩
  · obtain ⟨b, t, rfl, _⟩ := h
    rfl
  · obtain ⟨b, t, rfl, hlt, q⟩ := h
    have hl : t.length ≤ sizeLine := Nat.le_trans hlt (by decide)
    refine ⟨_, pss_cons (ps_set (i := 2) sc__law_reading.nd rfl (Or.inl rfl) (pe_callO (ok__law_bad_sign T) hr rfl (pa_cons (pv 1) pa_nil))) (pss_cons (ps_set (i := 3) sc__law_reading.nd rfl (Or.inl rfl) (pe_slice sl_str (pv 1) po_none (po_some (pv 2)))) (pss_cons (ps_set (i := 4) sc__law_reading.nd rfl (Or.inl rfl) (pe_lst pa_nil)) (pss_cons (ps_set (i := 5) sc__law_reading.nd rfl (Or.inl rfl) (pe_callO (ok__law_one T) hr rfl (pa_cons (pv 0) (pa_cons (pv 3) (pa_cons pe_int pa_nil))))) (pss_cons (ps_for PassesOwn.never rfl (pi_range1 rfl T.range (pa_cons (pe_op op_add (pe_callB call_len_str rfl T.len (by decide +kernel) (pa_cons (pv 3) pa_nil)) pe_int) pa_nil)) (pg_name (i := 6) sc__law_reading.nd rfl (Or.inl rfl)) (pss_cons (ps_if (pt_cmpR op_notN (pe_ix ix_list (pv 5) pe_int (fun _ _ => rfl)) pe_non (nomark _)) (pss_one ps_break) pss_nil) (pss_cons (ps_expr (pe_bm PySem.F.plainAttrs_list PySem.F.slot_list_append PySem.F.type_list_append mt_append (pv 4) (pa_cons (pe_ix ix_list (pv 5) pe_int (fun _ _ => rfl)) pa_nil))) (pss_one (ps_set (i := 5) sc__law_reading.nd rfl (Or.inl rfl) (pe_callO (ok__law_one T) hr rfl (pa_cons (pv 0) (pa_cons (pv 3) (pa_cons (pe_ix ix_list (pv 5) pe_int (fun _ _ => rfl)) pa_nil))))))))) (pss_cons (ps_if (PW.pt (pw_and (pt_cmpR op_lt (pv 2) (pe_callB call_len_str rfl T.len (by decide +kernel) (pa_cons (pv 1) pa_nil)) (nomark _)) (pw_and1 (pt_cmpR op_isN (pe_ix ix_list (pe_ix ix_list (pv 5) pe_int (fun _ _ => rfl)) pe_int (fun _ _ => rfl)) pe_non (nomark _))))) (pss_one (ps_ret (pe_lst (pa_cons (pv 4) (pa_cons pe_str (pa_cons (pe_tup (pa_cons pe_str (pa_cons (pv 2) pa_nil))) (pa_cons pe_non pa_nil))))))) pss_nil) (pss_one (ps_ret (pe_lst (pa_cons (pv 4) (pa_cons (pe_ix ix_list (pe_ix ix_list (pv 5) pe_int (fun _ _ => rfl)) pe_int (fun _ _ => rfl)) (pa_cons (pe_ix ix_list (pe_ix ix_list (pv 5) pe_int (fun _ _ => rfl)) pe_int (fun _ _ => rfl)) (pa_cons (pe_ix ix_list (pv 5) pe_int (fun _ _ => rfl)) pa_nil)))))))))))), ?_⟩
    have hble := badAt_le (P := Par b) t
    obtain ⟨fl, hfl⟩ := read_flag b t
    have hrd : reading (Par b) t = (if badAt (Par b) t < t.length ∧ fl.2 = none then ⟨(lawAll (Par b) (t.take (badAt (Par b) t)) ((t.take (badAt (Par b) t)).length + 1) (lawOne (Par b) (t.take (badAt (Par b) t)) 0) []).1, .broken, some (.character, (badAt (Par b) t : Nat)), none⟩
        else ⟨(lawAll (Par b) (t.take (badAt (Par b) t)) ((t.take (badAt (Par b) t)).length + 1) (lawOne (Par b) (t.take (badAt (Par b) t)) 0) []).1, fl.1, fl.2, (lawAll (Par b) (t.take (badAt (Par b) t)) ((t.take (badAt (Par b) t)).length + 1) (lawOne (Par b) (t.take (badAt (Par b) t)) 0) []).2.opn⟩) := by
      unfold reading
      dsimp only
      rw [hfl]
      rfl
    rw [hrd] at q
    refine ⟨_, rfl, b, t, rfl, hl, ?_⟩
    generalize badAt (Par b) t = bd at q hble hfl ⊢
    refine ⟨_, rfl, _, rfl, _, rfl, _, rfl, hl, ?_⟩
    rw [cut_to]
    have hw : (t.take bd).length = bd := by rw [List.length_take]; omega
    have hwl : (t.take bd).length ≤ 4000000 := by omega
    have hwl2 : (t.take bd).length ≤ sizeLine := Nat.le_trans hwl (by decide)
    generalize hwd : t.take bd = wd at q hfl hw hwl hwl2 ⊢
    refine ⟨by show 0 ≤ sizeLine; decide, fun pr hpr => ?_⟩
    refine ⟨_, rfl, _, rfl, b, wd, 0, rfl, hwl, Nat.zero_le _, fun H1 r1 s1 o1 => ?_⟩
    have sH : Same H H1 := (same_new hpr).trans s1
    have hpr1 := s1 _ _ (upd_same (H := H) (a := pr) (o := .lst []))
    have hNpr : ¬ (upd H pr (.lst [])) pr = none := by rw [upd_same]; simp
    generalize hHB : upd H pr (.lst []) = HB at s1 o1 hpr1 hNpr
    have hHBN : ∀ x, HB x = none → H x = none := fun x hx => (show Same H HB from by rw [← hHB]; exact same_new hpr).free hx
    have hposs : ∀ a : Nat, a ≤ wd.length → (lawOne (Par b) wd a).pos ≤ wd.length := fun a ha => lawOne_pos ha
    refine ⟨_, rfl, _, rfl, hwl2, _, _, rfl, rfl, _, rfl, by rw [S_len]; have : wd.length ≤ 16777216 := hwl2; omega, by rw [S_len]; have : wd.length ≤ 16777216 := hwl2; omega, ?_⟩
    rw [S_len, show ((wd.length : Nat) : Int) + 1 = ((wd.length + 1 : Nat) : Int) from rfl, Int.toNat_natCast]
    generalize hA : lawAll (Par b) wd (wd.length + 1) (lawOne (Par b) wd 0) [] = AR at q hfl
    refine for_itB (n := wd.length + 1) (G := fun _ => True) walk_range (fun i σ H' => ∃ (o : OR) (rows : List Row) (xs : List V) (r : Addr) (v6 : Option V),
        σ = [some (sideV b), some (.str (S t)), some (.int (bd : Nat)), some (.str (S wd)), some (.ref pr), some (.ref r), v6] ∧ Kp1 pr HB H' ∧ H' pr = some (.lst xs) ∧ RowsAt (fun x => HB x = none) H' xs rows ∧ OneAt (fun x => HB x = none) H' r o ∧
        o.pos ≤ wd.length ∧ (o.flag = none → o.row ≠ none) ∧ rows.length ≤ i ∧ lawAll (Par b) wd (wd.length + 1 - i) o rows = AR)
      (fun σ H' => ∃ (xs : List V) (r : Addr) (v6 : Option V),
        σ = [some (sideV b), some (.str (S t)), some (.int (bd : Nat)), some (.str (S wd)), some (.ref pr), some (.ref r), v6] ∧ Kp1 pr HB H' ∧ H' pr = some (.lst xs) ∧ RowsAt (fun x => HB x = none) H' xs AR.1 ∧ OneAt (fun x => HB x = none) H' r AR.2)
      ⟨_, [], [], r1, _, rfl, Kp1.refl.same s1, hpr1, .nil, o1, hposs 0 (Nat.zero_le _), lawOne_row, Nat.le_refl _, hA⟩ (fun _ _ _ _ _ => trivial) ?_ ?_ ?_
    · rintro σ H2 ⟨xs, r, v6, rfl, kp, hp, hrows, x, y, z, h1, h2, h3, h4⟩
      have sH2 : Same H H2 := fun c o e => by
        have hne : c ≠ pr := fun z => by rw [z, hpr] at e; cases e
        exact kp _ _ (by rw [← hHB, upd_ne hne]; exact e) hne
      rw [hfl] at h3
      obtain ⟨pf, yf, rfl, hf1, hf2⟩ := h3
      have wk : ∀ x, HB x = none → H x = none := hHBN
      have fin : ¬ (bd < t.length ∧ fl.2 = none) → ∀ r', H2 r' = none → Q (.ref r') (upd H2 r' (.lst [.ref pr, stgV fl.1, yf, z])) := fun hc r' hr' => by
        rw [if_neg hc] at q
        refine q _ r' (sH2.trans (same_new hr')) ⟨pr, xs, yf, z, upd_same, sH2.free hr', hpr, same_new hr' _ _ hp, (hrows.same (same_new hr')).weak wk, hf2.mono fun c ys e => same_new hr' _ _ e, (h4.same (same_new hr')).weak wk⟩
      refine ⟨_, rfl, _, rfl, _, rfl, hl, _, _, rfl, rfl, _, rfl, ?_⟩
      rw [S_len]
      have last : ¬ (bd < t.length ∧ fl.2 = none) → tRet (tLst (tCons (tVar 4) (tCons (tOp (rIxL K) (tOp (rIxL K) (tVar 5) (tC (.int 2))) (tC (.int 0))) (tCons (tOp (rIxL K) (tOp (rIxL K) (tVar 5) (tC (.int 2))) (tC (.int 1))) (tCons (tOp (rIxL K) (tVar 5) (tC (.int 3))) tNil)))))
          { nx := fun _ H' => Q .non H', rt := Q } [some (sideV b), some (.str (S t)), some (.int (bd : Nat)), some (.str (S wd)), some (.ref pr), some (.ref r), v6] H2 := fun hc => by
        refine ⟨_, rfl, _, rfl, r, _, _, _, rfl, rfl, SqL.of h1, atI_nat (j := 2) rfl, pf, _, _, _, rfl, rfl, SqL.of hf1, atI_nat (j := 0) rfl, _, rfl, r, _, _, _, rfl, rfl, SqL.of h1, atI_nat (j := 2) rfl, pf, _, _, _, rfl, rfl, SqL.of hf1, atI_nat (j := 1) rfl,
          _, rfl, r, _, _, _, rfl, rfl, SqL.of h1, atI_nat (j := 3) rfl, by show 4 ≤ sizeLine; decide, fun r' hr' => fin hc r' hr'⟩
      refine ite2 (fun h5 => ?_) (fun h5 => ?_)
      · have h5 := of_decide_eq_true h5
        refine ⟨_, rfl, r, _, _, _, rfl, rfl, SqL.of h1, atI_nat (j := 2) rfl, pf, _, _, _, rfl, rfl, SqL.of hf1, atI_nat (j := 1) rfl, rfl, _, rfl, ?_⟩
        rw [flt_non hf2]
        refine ite2 (fun h6 => ?_) (fun h6 => ?_)
        · have h6 := of_decide_eq_true h6
          rw [if_pos ⟨by omega, h6⟩] at q
          refine ⟨_, rfl, _, rfl, by show 2 ≤ sizeLine; decide, fun pq hpq => ⟨by show 4 ≤ sizeLine; decide, fun r' hr' => ?_⟩⟩
          have s3 := (same_new (o := .tup [str "character", .int (bd : Nat)]) hpq).trans (same_new (o := .lst [.ref pr, str "broken", .ref pq, .non]) hr')
          refine q _ r' (sH2.trans s3) ⟨pr, xs, _, _, upd_same, (sH2.trans (same_new hpq)).free hr', hpr, s3 _ _ hp, (hrows.same s3).weak wk, ⟨pq, rfl, same_new hr' _ _ upd_same⟩, rfl⟩
        · exact last fun z => nd h6 z.2
      · exact last fun z => nd h5 (by have := z.1; omega)
    · rintro hB i x σ H2 H3 hi ⟨o, rows, xs, r, v6, rfl, kp, hp, hrows, ho, hpos, hrow, hlen, he⟩ ⟨rfl, rfl⟩
      rw [show wd.length + 1 - i = (wd.length - i) + 1 from by omega] at he
      unfold lawAll at he
      obtain ⟨x, y, z', h1, h2, h3, h4⟩ := ho
      refine ⟨_, rfl, r, _, _, _, rfl, rfl, SqL.of h1, atI_nat (j := 2) rfl, rfl, _, rfl, ?_⟩
      rw [flag_non h3]
      refine ite2 (fun h5 => ?_) (fun h5 => ?_)
      · have h5 := pn h5
        rw [if_pos h5] at he
        subst he
        exact hB _ _ ⟨xs, r, _, rfl, kp, hp, hrows, x, y, z', h1, h2, h3, h4⟩
      · have h5 := pp h5
        rw [if_neg (fun z => z h5)] at he
        obtain ⟨row, hrw⟩ := Option.ne_none_iff_exists'.mp (hrow h5)
        rw [hrw] at h2 he
        have hlx := Paired.length hrows
        refine ⟨_, rfl, .inl ⟨rfl, _, SqL.of hp⟩, _, rfl, r, _, _, _, rfl, rfl, SqL.of h1, atI_nat (j := 0) rfl, pr, xs, x, rfl, rfl, hp, by rw [hlx]; exact Nat.lt_of_le_of_lt hlen (by have : wd.length ≤ 4000000 := hwl; show i < 16777216; omega), ?_⟩
        have hne : r ≠ pr := fun z => by
          rw [z, hp] at h1
          have h1 : xs = [x, .int (o.pos : Nat), y, z'] := by injection h1 with h1; injection h1
          subst h1
          cases hrows with
          | cons _ hr2 =>
            cases hr2 with
            | cons hr3 _ =>
              obtain ⟨_, _, _, e, _⟩ := hr3
              cases e
        have h1' : (upd H3 pr (.lst (xs ++ [x]))) r = some (.lst [x, .int (o.pos : Nat), y, z']) := by rw [upd_ne hne]; exact h1
        refine ⟨_, rfl, _, rfl, _, rfl, r, _, _, _, rfl, rfl, SqL.of h1', atI_nat (j := 1) rfl, b, wd, o.pos, rfl, hwl, hpos, fun H4 r4 s4 o4 => ?_⟩
        have kp' := kp.put (o := .lst (xs ++ [x]))
        refine ⟨_, rows ++ [row], xs ++ [x], r4, _, rfl, kp'.same s4, s4 _ _ upd_same, ?_, ?_, hposs _ hpos, lawOne_row, ?_, ?_⟩
        · exact (RowsAt.snoc (h2.put hp hNpr) (hrows.put hp hNpr)).same s4
        · refine o4.weak fun c hc => ?_
          by_cases hcp : c = pr
          · rw [hcp, upd_same] at hc; cases hc
          · cases hx : HB c with
            | none => rfl
            | some u =>
              rw [kp' _ _ hx hcp] at hc
              cases hc
        · rw [List.length_append, List.length_singleton]; omega
        · rw [show wd.length + 1 - (i + 1) = wd.length - i from by omega]
          exact he
    · rintro σ H2 ⟨o, rows, xs, r, v6, rfl, kp, hp, hrows, ho, hpos, hrow, hlen, he⟩
      rw [Nat.sub_self] at he
      have he : (rows, o) = AR := he
      subst he
      exact ⟨xs, r, _, rfl, kp, hp, hrows, ho⟩
theorem opn_non {N : Addr → Prop} {H : Hp} {x : V} {f : Option (List Row)} (h : OpnAt N H x f) : decide (x = .non) = decide (f = none) := by
  cases f with
  | none =>
    have h : x = .non := h
    rw [h]; rfl
  | some f =>
    obtain ⟨p, xs, e, _⟩ := h
    subst e
    rw [decide_eq_false (by intro z; cases z), decide_eq_false (by intro z; cases z)]
def sp__law_ended : Sp := fun vs H Q _ => ∃ (b : Bool) (t : Tx), vs = [sideV b, .str (S t)] ∧ t.length ≤ 4000000 ∧ ∀ H' r, Same H H' → EndAt (fun x => H x = none) H' r (ended (Par b) t) → Q (.ref r) H'
theorem ok__law_ended (T : Txt K mg) : Ok P w K mg base CX0 "_law_ended" 8 ["_law_side", "_law_text"] sp__law_ended := by
  obtain ⟨f, fd, hm, F⟩ := T._law_ended
  refine ⟨f, fd, hm, F.kp, F.binds fun _ _ _ _ _ _ us hl => match us, hl with | [_, _], _ => rfl, F.ok sc__law_ended (fun vs H Q E h => ?_) (fun cdv A outer s H vs Q E hr h => ?_)⟩
  · obtain ⟨b, t, rfl, _⟩ := h
    rfl
  · obtain ⟨b, t, rfl, hlt, q⟩ := h
    have hl : t.length ≤ sizeLine := Nat.le_trans hlt (by decide)
    refine ⟨_, pss_cons (ps_set (i := 2) sc__law_ended.nd rfl (Or.inl rfl) (pe_callO (ok__law_reading T) hr rfl (pa_cons (pv 0) (pa_cons (pv 1) pa_nil)))) (pss_cons (ps_if (pt_cmpR op_notN (pe_ix ix_list (pv 2) pe_int (fun _ _ => rfl)) pe_non (nomark _)) (pss_one (ps_ret (pe_lst (pa_cons (pe_ix ix_list (pv 2) pe_int (fun _ _ => rfl)) (pa_cons (pe_lst pa_nil) (pa_cons pe_str (pa_cons (pe_ix ix_list (pv 2) pe_int (fun _ _ => rfl)) pa_nil))))))) pss_nil) (pss_cons (ps_if (pt_cmpR op_isN (pe_ix ix_list (pv 2) pe_int (fun _ _ => rfl)) pe_non (nomark _)) (pss_one (ps_ret (pe_lst (pa_cons (pe_ix ix_list (pv 2) pe_int (fun _ _ => rfl)) (pa_cons (pe_lst pa_nil) (pa_cons pe_str (pa_cons (pe_tup (pa_cons pe_str (pa_cons (pe_callB call_len_str rfl T.len (by decide +kernel) (pa_cons (pv 1) pa_nil)) pa_nil))) pa_nil))))))) pss_nil) (pss_one (ps_ret (pe_lst (pa_cons (pe_ix ix_list (pv 2) pe_int (fun _ _ => rfl)) (pa_cons (pe_ix ix_list (pv 2) pe_int (fun _ _ => rfl)) (pa_cons pe_str (pa_cons pe_non pa_nil))))))))), ?_⟩
    refine ⟨_, rfl, _, rfl, b, t, rfl, hlt, fun H1 r s1 hr => ?_⟩
    unfold ended at q
    dsimp only at q
    generalize reading (Par b) t = rr at q hr
    obtain ⟨p, xs, y, z, h1, n1, n2, h2, h3, h4, h5⟩ := hr
    refine ⟨_, rfl, r, _, _, _, rfl, rfl, SqL.of h1, atI_nat (j := 2) rfl, rfl, _, rfl, ?_⟩
    rw [flt_non h4]
    refine ite2 (fun c => ?_) (fun c => ?_)
    · rw [if_pos (pn c)] at q
      refine ⟨_, rfl, r, _, _, _, rfl, rfl, SqL.of h1, atI_nat (j := 0) rfl, by show 0 ≤ sizeLine; decide, fun m hm => ?_⟩
      have s2 := same_new (o := .lst []) hm
      refine ⟨_, rfl, r, _, _, _, rfl, rfl, SqL.of (s2 _ _ h1), atI_nat (j := 2) rfl, by show 4 ≤ sizeLine; decide, fun r' hr' => ?_⟩
      have s3 := same_new (o := .lst [.ref p, .ref m, str "broken", y]) hr'
      exact q _ r' ((s1.trans s2).trans s3) ⟨p, m, xs, [], y, upd_same, (s1.trans s2).free hr', n2, s1.free hm, s3 _ _ (s2 _ _ h2), (h3.same s2).same s3, s3 _ _ upd_same, .nil, h4.mono fun c ys e => s3 _ _ (s2 _ _ e)⟩
    · have c := pp c
      rw [if_neg (fun z => z c)] at q
      refine ⟨_, rfl, r, _, _, _, rfl, rfl, SqL.of h1, atI_nat (j := 3) rfl, rfl, _, rfl, ?_⟩
      rw [opn_non h5]
      cases ho : rr.opn with
      | none =>
        rw [ho] at q
        refine iteT ⟨_, rfl, r, _, _, _, rfl, rfl, SqL.of h1, atI_nat (j := 0) rfl, by show 0 ≤ sizeLine; decide, fun m hm => ?_⟩
        have s2 := same_new (o := .lst []) hm
        refine ⟨_, rfl, _, rfl, hl, by show 2 ≤ sizeLine; decide, fun pq hpq => ⟨by show 4 ≤ sizeLine; decide, fun r' hr' => ?_⟩⟩
        have s3 := same_new (o := .tup [str "cut", .int ((S t).length : Nat)]) hpq
        have s4 := same_new (o := .lst [.ref p, .ref m, str "broken", .ref pq]) hr'
        refine q _ r' (((s1.trans s2).trans s3).trans s4) ⟨p, m, xs, [], .ref pq, upd_same, ((s1.trans s2).trans s3).free hr', n2, s1.free hm, s4 _ _ (s3 _ _ (s2 _ _ h2)), ((h3.same s2).same s3).same s4, s4 _ _ (s3 _ _ upd_same), .nil, pq, rfl, ?_⟩
        rw [show ((S t).length : Int) = (t.length : Nat) from by rw [S_len]] at s4 ⊢
        exact s4 _ _ upd_same
      | some rs =>
        rw [ho] at q h5
        obtain ⟨po, xo, rfl, no, ho1, ho2⟩ := h5
        refine iteF ⟨_, rfl, r, _, _, _, rfl, rfl, SqL.of h1, atI_nat (j := 0) rfl, _, rfl, r, _, _, _, rfl, rfl, SqL.of h1, atI_nat (j := 3) rfl, by show 4 ≤ sizeLine; decide, fun r' hr' => ?_⟩
        have s3 := same_new (o := .lst [.ref p, .ref po, str "closed", .non]) hr'
        exact q _ r' (s1.trans s3) ⟨p, po, xs, xo, .non, upd_same, s1.free hr', n2, no, s3 _ _ h2, h3.same s3, s3 _ _ ho1, ho2.same s3, rfl⟩
end
end K6

set_option Elab.async false
set_option linter.all false
set_option maxRecDepth 100000
set_option maxHeartbeats 4000000
/-! KW12: the law's bag of numbers. -/
namespace K6
open PySem PySem.Spec PyProof.Rows L2
def BagAt (H : Hp) (a : Addr) : Prop := ∃ (d k : Int) (y : V), H a = some (.lst [.int d, y, .int k]) ∧ (y = .non ∨ ∃ c, y = .int c)
/-- all but the bag stands, the bag is a bag -/
def Bg (a : Addr) (H H' : Hp) : Prop := Kp1 a H H' ∧ BagAt H' a
theorem Bg.refl {a : Addr} {H : Hp} (h : BagAt H a) : Bg a H H := ⟨Kp1.refl, h⟩
theorem Bg.trans {a : Addr} {H H1 H2 : Hp} (h : Bg a H H1) (k : Bg a H1 H2) : Bg a H H2 := ⟨h.1.trans k.1, k.2⟩
theorem BagAt.same {a : Addr} {H H' : Hp} (h : BagAt H a) (s : Same H H') : BagAt H' a := by
  obtain ⟨d, k, y, h, hy⟩ := h
  exact ⟨d, k, y, s _ _ h, hy⟩
theorem Bg.same {a : Addr} {H H1 H2 : Hp} (h : Bg a H H1) (s : Same H1 H2) : Bg a H H2 := ⟨h.1.same s, h.2.same s⟩
theorem Bg.of_same {a : Addr} {H H1 : Hp} (h : BagAt H a) (s : Same H H1) : Bg a H H1 := ⟨Kp1.refl.same s, h.same s⟩
theorem BagAt.has {a : Addr} {H : Hp} (h : BagAt H a) : H a ≠ none := by
  obtain ⟨d, k, y, h, hy⟩ := h
  rw [h]; simp
theorem BagAt.ne {a l : Addr} {H : Hp} (h : BagAt H a) (hl : H l = none) : l ≠ a := fun z => h.has (z ▸ hl)
theorem Bg.tup {a : Addr} {H H1 : Hp} (k : Bg a H H1) (hb : BagAt H a) : ∀ b ys, H b = some (.tup ys) → H1 b = some (.tup ys) := by
  obtain ⟨d, i, y, h, hy⟩ := hb
  exact k.1.tup h
theorem Bg.free {a : Addr} {H H1 : Hp} (k : Bg a H H1) (hb : BagAt H a) {x : Addr} (hx : H1 x = none) : H x = none := by
  cases h : H x with
  | none => rfl
  | some o =>
    have hne : x ≠ a := fun z => k.2.has (z ▸ hx)
    rw [k.1 _ _ h hne] at hx
    cases hx
theorem Bg.bag {a : Addr} {H H1 : Hp} (k : Bg a H H1) : BagAt H1 a := k.2
theorem atI_int {xs : List V} {k : Int} {v : V} (h0 : 0 ≤ k) (h : xs[k.toNat]? = some v) : atI xs k = some v := by
  have e : ((k.toNat : Nat) : Int) = k := by omega
  have := atI_nat h
  rw [e] at this
  exact this
theorem op_mul_str {X : Cx} : OpR X (binaryOp .Mult) (fun x y H Q => ∃ (z : PySem.Str) (n : Int), x = .str z ∧ y = .int n ∧ 0 ≤ n ∧ n ≤ 100000 ∧ z.length ≤ 100 ∧ ∀ r : PySem.Str, r.length = z.length * n.toNat → Q (.str r) H) := by
  intro pins s σ H x y v u Q I rx ry h
  obtain ⟨z, n, rfl, rfl, h0, h1, hz, q⟩ := h
  obtain ⟨t, rfl⟩ := rx
  obtain ⟨t', rfl⟩ := ry
  have hm : z.length * n.toNat ≤ 100 * 100000 := Nat.mul_le_mul hz (by omega)
  have hlen : ((List.replicate n.toNat z.cps).foldl (· ++ ·) #[]).size = z.length * n.toNat := by
    have key : ∀ (k : Nat) (acc : Array Nat), ((List.replicate k z.cps).foldl (· ++ ·) acc).size = acc.size + z.length * k := by
      intro k
      induction k with
      | zero => intro acc; simp
      | succ k ih =>
        intro acc
        rw [List.replicate_succ, List.foldl_cons, ih, Array.size_append, Nat.mul_succ]
        show acc.size + z.cps.size + z.length * k = acc.size + (z.length * k + z.length)
        have : z.cps.size = z.length := rfl
        omega
    rw [key, List.size_toArray, List.length_nil, Nat.zero_add]
  refine PySem.P.mul_str ?_ (fun h2 _ => ?_) (fun h2 _ => ?_) ?_
  · rw [decide_eq_false (by omega), decide_eq_false (by omega)]
    rfl
  · have h3 : (92233720368547 : Int) ≤ (2 ^ 63 - 1) / n := by
      rw [Int.le_ediv_iff_mul_le (by omega)]
      omega
    have : (z.length : Int) ≤ 100 := by omega
    omega
  · unfold PySem.Builtin.Str.tooLong
    exact decide_eq_false (by show ¬ z.length * n.toNat > 16777216; omega)
  · split
    · rename_i h2
      have e : n = 0 := by omega
      exact ⟨by decide, .str PySem.Str.empty, H, I.tok _, ⟨_, rfl⟩, q _ (by rw [e]; rfl)⟩
    · split
      · rename_i h2 h3
        refine ⟨.str z, H, I, ⟨_, rfl⟩, q _ ?_⟩
        rw [Bool.or_eq_true, beq_iff_eq, beq_iff_eq] at h3
        rcases h3 with h3 | h3
        · rw [h3]; simp
        · rw [h3]; simp
      · exact ⟨by show _ ≤ 16777216; show ((List.replicate n.toNat z.cps).foldl (· ++ ·) #[]).size ≤ 16777216; rw [hlen]; omega, .str _, H, I.tok _, ⟨_, rfl⟩, q _ hlen⟩
section
variable {P : Program} {w : World} {K : PySem.W.Frag} {mg : PySem.Str → Option Value} {base : Heap}
def sp__law_bag : Sp := fun vs H Q _ => ∃ (s : Addr) (ns : List Int) (k : Int), vs = [.ref s, .int k] ∧ SqL K H s (ns.map V.int) ∧ 0 ≤ k ∧ k ≤ 1000 ∧ ∀ H' a, Same H H' → H a = none → BagAt H' a → Q (.ref a) H'
theorem ok__law_bag (T : Txt K mg) : Ok P w K mg base CX0 "_law_bag" 1 ["_law_script", "_law_k"] (sp__law_bag (K := K)) := by
  obtain ⟨f, fd, hm, F⟩ := T._law_bag
  refine ⟨f, fd, hm, F.kp, F.binds fun _ _ _ _ _ _ us hl => match us, hl with | [_, _], _ => rfl, F.ok sc__law_bag (fun vs H Q E h => ?_) (fun cdv A outer s H vs Q E hr h => ?_)⟩
  · obtain ⟨s, ns, k, rfl, _⟩ := h
    rfl
  · obtain ⟨s, ns, k, rfl, hS, hk0, hk1, q⟩ := h
    refine ⟨_, pss_cons (ps_if (pt_not (pt_truth (pv 0) (by intro _; rfl))) (pss_one (ps_ret (pe_lst (pa_cons pe_int (pa_cons pe_non (pa_cons pe_int pa_nil)))))) pss_nil) (pss_cons (ps_set (i := 2) sc__law_bag.nd rfl (Or.inl rfl) (pe_op op_add (pe_op op_modN (pe_callTy call_int1 rfl T.int (by decide +kernel) (pa_cons (pe_callB (cr_sum rfl) rfl T.sum (by decide +kernel) (pa_cons (pv 0) pa_nil)) pa_nil)) pe_int) (pe_op op_mul pe_int (pv 1)))) (pss_cons (ps_if (pt_cmpR op_lt (pv 1) (pe_callB call_len_seq rfl T.len (by decide +kernel) (pa_cons (pv 0) pa_nil)) (nomark _)) (pss_one (ps_set (i := 2) sc__law_bag.nd rfl (Or.inl rfl) (pe_ix ix_list (pv 0) (pv 1) (fun _ _ => rfl)))) pss_nil) (pss_one (ps_ret (pe_lst (pa_cons (pe_op op_sub (pe_callB call_abs rfl T.abs (by decide +kernel) (pa_cons (pv 2) pa_nil)) (pe_op op_pow pe_int pe_int)) (pa_cons (pv 2) (pa_cons pe_int pa_nil)))))))), ?_⟩
    refine ⟨_, rfl, _, .inl ⟨_, hS, rfl⟩, ?_⟩
    cases hns : (ns.map V.int).isEmpty with
    | true =>
      refine iteT ⟨by show 3 ≤ sizeLine; decide, fun l hl => ?_⟩
      exact q _ l (same_new hl) hl ⟨_, _, _, upd_same, .inl rfl⟩
    | false =>
      refine iteF ⟨_, rfl, s, ns, rfl, hS, .inl ⟨_, rfl, _, _, rfl, rfl, by show (1000003 : Int) ≠ 0; decide, _, rfl, _, _, rfl, rfl, .inl ⟨by decide, by decide⟩, _, _, rfl, rfl, ?_⟩⟩
      refine ⟨_, rfl, _, rfl, s, _, rfl, .inl hS, _, _, rfl, rfl, _, rfl, ?_⟩
      have fin : ∀ c : Int, tRet (tLst (tCons (tOp (rI0 fun i j => .int (i - j)) (tCB (fun xs H Q => ∃ i, xs = [.int i] ∧ Q (.int (if i < 0 then -i else i)) H) (tCons (tVar 2) tNil)) (tOp (rI CPow fun i j => .int (i ^ j.toNat)) (tC (.int 10)) (tC (.int 18)))) (tCons (tVar 2) (tCons (tC (.int 0)) tNil))))
          { nx := fun _ H' => Q .non H', rt := Q } [some (.ref s), some (.int k), some (.int c)] H := fun c => by
        refine ⟨_, rfl, _, rfl, _, _, rfl, rfl, ⟨by decide, by decide, by decide⟩, _, _, rfl, rfl, _, rfl, by show 3 ≤ sizeLine; decide, fun l hl => ?_⟩
        exact q _ l (same_new hl) hl ⟨_, _, _, upd_same, .inr ⟨_, rfl⟩⟩
      refine ite2 (fun h => ?_) (fun h => fin _)
      have h := of_decide_eq_true h
      rw [List.length_map] at h
      have hk : k.toNat < ns.length := by omega
      have hat : atI (ns.map V.int) k = some (.int ns[k.toNat]) := by
        refine atI_int hk0 ?_
        rw [List.getElem?_map, List.getElem?_eq_getElem hk]
        rfl
      exact ⟨_, rfl, _, rfl, s, _, _, _, rfl, rfl, hS, hat, fin _⟩
def sp__law_draw : Sp := fun vs H Q _ => ∃ (a : Addr) (n : Int), vs = [.ref a, .int n] ∧ BagAt H a ∧ n ≤ 10000000 ∧ ∀ H' (r : Int), Bg a H H' → 0 ≤ r → (r < n ∨ r = 0) → Q (.int r) H'
theorem ok__law_draw (T : Txt K mg) : Ok P w K mg base CX0 "_law_draw" 1 ["_law_bag_here", "_law_size"] sp__law_draw := by
  obtain ⟨f, fd, hm, F⟩ := T._law_draw
  refine ⟨f, fd, hm, F.kp, F.binds fun _ _ _ _ _ _ us hl => match us, hl with | [_, _], _ => rfl, F.ok sc__law_draw (fun vs H Q E h => ?_) (fun cdv A outer s H vs Q E hr h => ?_)⟩
  · obtain ⟨a, n, rfl, _⟩ := h
    rfl
  · obtain ⟨a, n, rfl, hb, hn, q⟩ := h
    refine ⟨_, pss_cons (ps_if (PW.pt (pw_or (pt_cmpR op_lt (pv 1) pe_int (nomark _)) (pw_or1 (pt_cmpR op_isN (pe_ix ix_list (pv 0) pe_int (fun _ _ => rfl)) pe_non (nomark _))))) (pss_one (ps_ret pe_int)) pss_nil) (pss_cons (ps_asg (pe_op op_add (pe_ix ix_list (pv 0) pe_int (fun _ _ => rfl)) pe_int) (pg_sub (pv 0) pe_int set_list)) (pss_cons (ps_if (pt_cmpR op_gt (pe_ix ix_list (pv 0) pe_int (fun _ _ => rfl)) pe_int (nomark _)) (pss_cons (ps_set (i := 5) sc__law_draw.nd rfl (Or.inl rfl) (pe_op op_modN (pe_callTy call_int1 rfl T.int (by decide +kernel) (pa_cons (pe_ix ix_list (pv 0) pe_int (fun _ _ => rfl)) pa_nil)) (pv 1))) (pss_cons (ps_asg (pe_op op_fdivN (pe_ix ix_list (pv 0) pe_int (fun _ _ => rfl)) (pv 1)) (pg_sub (pv 0) pe_int set_list)) (pss_one (ps_ret (pv 5))))) pss_nil) (pss_cons (ps_set (i := 2) sc__law_draw.nd rfl (Or.inl rfl) (pe_op op_modN (pe_callTy call_int1 rfl T.int (by decide +kernel) (pa_cons (pe_op op_add (pe_op op_add (pe_op op_mul (pe_ix ix_list (pv 0) pe_int (fun _ _ => rfl)) pe_int) (pe_op op_mul (pe_ix ix_list (pv 0) pe_int (fun _ _ => rfl)) pe_int)) pe_int) pa_nil)) pe_int)) (pss_cons (ps_set (i := 3) sc__law_draw.nd rfl (Or.inl rfl) (pe_op op_modN (pe_callTy call_int1 rfl T.int (by decide +kernel) (pa_cons (pe_op op_add (pe_op op_mul (pv 2) (pv 2)) (pe_op op_mul (pe_ix ix_list (pv 0) pe_int (fun _ _ => rfl)) pe_int)) pa_nil)) pe_int)) (pss_cons (ps_set (i := 4) sc__law_draw.nd rfl (Or.inl rfl) (pe_op op_modN (pe_callTy call_int1 rfl T.int (by decide +kernel) (pa_cons (pe_op op_add (pe_op op_mul (pv 3) (pv 3)) (pe_op op_mul (pv 2) pe_int)) pa_nil)) pe_int)) (pss_one (ps_ret (pe_op op_modN (pe_callTy call_int1 rfl T.int (by decide +kernel) (pa_cons (pe_op op_fdivN (pv 4) pe_int) pa_nil)) (pv 1))))))))), ?_⟩
    obtain ⟨d, k, y, ha, hy⟩ := id hb
    refine ⟨_, rfl, _, _, rfl, rfl, _, rfl, ?_⟩
    refine ite2 (fun h => iteT (q _ 0 (Bg.refl hb) (by decide) (.inr rfl))) (fun h => ⟨_, rfl, a, _, _, _, rfl, rfl, SqL.of ha, atI_nat (j := 1) rfl, rfl, _, rfl, ?_⟩)
    have h2 : 2 ≤ n := by have := nd h; omega
    rcases hy with rfl | ⟨c, rfl⟩
    · exact iteT (q _ 0 (Bg.refl hb) (by decide) (.inr rfl))
    refine iteF ⟨_, rfl, a, _, _, _, rfl, rfl, SqL.of ha, atI_nat (j := 2) rfl, _, _, rfl, rfl, _, rfl, a, _, _, 2, rfl, rfl, ha, rfl, ?_⟩
    have ha1 : upd H a (HO.lst [.int d, .int c, .int (k + 1)]) a = some (.lst [.int d, .int c, .int (k + 1)]) := upd_same
    have b1 : Bg a H (upd H a (HO.lst [.int d, .int c, .int (k + 1)])) := ⟨Kp1.refl.put, _, _, _, ha1, .inr ⟨_, rfl⟩⟩
    have fm : ∀ z : Int, 0 ≤ z.fmod n ∧ z.fmod n < n := fun z => by
      rw [Int.fmod_eq_emod_of_nonneg z (by omega)]
      exact ⟨Int.emod_nonneg _ (by omega), Int.emod_lt_of_pos _ (by omega)⟩
    show (tSeq _ _ : TS) _ _ (upd H a (HO.lst [.int d, .int c, .int (k + 1)]))
    generalize upd H a (HO.lst [.int d, .int c, .int (k + 1)]) = H1 at ha1 b1 ⊢
    refine ⟨_, rfl, a, _, _, _, rfl, rfl, SqL.of ha1, atI_nat (j := 0) rfl, _, _, rfl, rfl, _, rfl, ?_⟩
    refine ite2 (fun h => ?_) (fun h => ?_)
    · refine ⟨_, rfl, a, _, _, _, rfl, rfl, SqL.of ha1, atI_nat (j := 0) rfl, .inl ⟨_, rfl, _, rfl, _, _, rfl, rfl, by omega, ?_⟩⟩
      refine ⟨_, rfl, a, _, _, _, rfl, rfl, SqL.of ha1, atI_nat (j := 0) rfl, _, rfl, _, _, rfl, rfl, ⟨by omega, by omega⟩, _, rfl, a, _, _, 0, rfl, rfl, ha1, rfl, _, rfl, ?_⟩
      exact q _ _ (b1.trans ⟨Kp1.refl.put, _, _, _, upd_same, .inr ⟨_, rfl⟩⟩) (fm d).1 (.inl (fm d).2)
    · refine ⟨_, rfl, a, _, _, _, rfl, rfl, SqL.of ha1, atI_nat (j := 1) rfl, _, _, rfl, rfl, .inr ⟨by decide, by decide⟩, _, rfl, a, _, _, _, rfl, rfl, SqL.of ha1, atI_nat (j := 2) rfl, _, _, rfl, rfl, .inr ⟨by decide, by decide⟩, _, _, rfl, rfl, _, _, rfl, rfl, .inl ⟨_, rfl, _, _, rfl, rfl, by show (2147483647 : Int) ≠ 0; decide, ?_⟩⟩
      have p1 : ∀ z : Int, -(2 ^ 64) < z.fmod 2147483647 ∧ z.fmod 2147483647 < 2 ^ 64 := fun z => by
        rw [Int.fmod_eq_emod_of_nonneg z (by decide)]
        have a1 := Int.emod_nonneg z (b := 2147483647) (by decide)
        have a2 := Int.emod_lt_of_pos z (b := 2147483647) (by decide)
        omega
      have p2 : ∀ z : Int, -(2 ^ 64) < z.fmod 2147483629 ∧ z.fmod 2147483629 < 2 ^ 64 := fun z => by
        rw [Int.fmod_eq_emod_of_nonneg z (by decide)]
        have a1 := Int.emod_nonneg z (b := 2147483629) (by decide)
        have a2 := Int.emod_lt_of_pos z (b := 2147483629) (by decide)
        omega
      refine ⟨_, rfl, _, rfl, _, _, rfl, rfl, .inl (p1 _), _, rfl, a, _, _, _, rfl, rfl, SqL.of ha1, atI_nat (j := 2) rfl, _, _, rfl, rfl, .inr ⟨by decide, by decide⟩, _, _, rfl, rfl, .inl ⟨_, rfl, _, _, rfl, rfl, by show (2147483629 : Int) ≠ 0; decide, ?_⟩⟩
      refine ⟨_, rfl, _, rfl, _, _, rfl, rfl, .inl (p2 _), _, rfl, _, _, rfl, rfl, .inl (p1 _), _, _, rfl, rfl, .inl ⟨_, rfl, _, _, rfl, rfl, by show (2147483587 : Int) ≠ 0; decide, ?_⟩⟩
      refine ⟨_, rfl, _, _, rfl, rfl, ⟨by decide, by decide⟩, .inl ⟨_, rfl, _, rfl, _, _, rfl, rfl, by omega, ?_⟩⟩
      exact q _ _ b1 (fm _).1 (.inl (fm _).2)
def sp__law_pick : Sp := fun vs H Q _ => (∃ (a l : Addr) (xs : List V), vs = [.ref a, .ref l] ∧ BagAt H a ∧ H l = some (.lst xs) ∧ l ≠ a ∧ 1 ≤ xs.length ∧ xs.length ≤ 4000000 ∧ ∀ H' x, Bg a H H' → x ∈ xs → Q x H') ∨
  (∃ (a : Addr) (u : PySem.Str), vs = [.ref a, .str u] ∧ BagAt H a ∧ 1 ≤ u.length ∧ u.length ≤ 1000 ∧ ∀ H' c, Bg a H H' → Q (.str ⟨#[c]⟩) H')
theorem ok__law_pick (T : Txt K mg) : Ok P w K mg base CX0 "_law_pick" 2 ["_law_bag_here", "_law_things"] sp__law_pick := by
  obtain ⟨f, fd, hm, F⟩ := T._law_pick
  refine ⟨f, fd, hm, F.kp, F.binds fun _ _ _ _ _ _ us hl => match us, hl with | [_, _], _ => rfl, F.ok sc__law_pick (fun vs H Q E h => ?_) (fun cdv A outer s H vs Q E hr h => ?_)⟩
  · rcases h with ⟨a, l, xs, rfl, _⟩ | ⟨a, u, rfl, _⟩
    · rfl
    · rfl
  · refine ⟨_, pss_one (ps_ret (pe_ix ix_seq (pv 1) (pe_callO (ok__law_draw T) hr rfl (pa_cons (pv 0) (pa_cons (pe_callB call_len rfl T.len (by decide +kernel) (pa_cons (pv 1) pa_nil)) pa_nil))) (fun _ _ => rfl))), ?_⟩
    rcases h with ⟨a, l, xs, rfl, hb, hl, hne, h1, h2, q⟩ | ⟨a, u, rfl, hb, h1, h2, q⟩
    · refine ⟨_, rfl, _, rfl, _, rfl, _, _, rfl, .inl ⟨xs, SqL.of hl, rfl⟩, a, _, rfl, hb, by omega, fun H1 r b1 r0 r1 => ?_⟩
      have hr : r.toNat < xs.length := by omega
      have hat : atI xs r = some xs[r.toNat] := by
        refine atI_int r0 ?_
        rw [List.getElem?_eq_getElem hr]
      exact .inl ⟨l, xs, _, _, rfl, rfl, SqL.of (b1.1 _ _ hl hne), hat, q _ _ b1 (List.getElem_mem hr)⟩
    · refine ⟨_, rfl, _, rfl, _, rfl, _, _, rfl, ⟨Nat.le_trans h2 (by decide), rfl⟩, a, _, rfl, hb, by omega, fun H1 r b1 r0 r1 => ?_⟩
      have hr : r.toNat < u.cps.toList.length := by
        have : u.cps.toList.length = u.length := rfl
        omega
      have hat : atI u.cps.toList r = some u.cps.toList[r.toNat] := by
        have e : ((r.toNat : Nat) : Int) = r := by omega
        have := atI_nat (List.getElem?_eq_getElem hr)
        rw [e] at this
        exact this
      exact .inr (.inr ⟨_, _, _, rfl, rfl, Nat.le_trans h2 (by decide), hat, q _ _ b1⟩)
def sp__law_most : Sp := fun vs H Q _ => ∃ (a : Addr) (x y : Int), vs = [.ref a, .int x, .int y] ∧ BagAt H a ∧ x ≤ y ∧ ∀ H' (m : Int), Bg a H H' → x ≤ m → m ≤ y → Q (.int m) H'
theorem ok__law_most (T : Txt K mg) : Ok P w K mg base CX0 "_law_most" 2 ["_law_bag_here", "_law_small", "_law_large"] sp__law_most := by
  obtain ⟨f, fd, hm, F⟩ := T._law_most
  refine ⟨f, fd, hm, F.kp, F.binds fun _ _ _ _ _ _ us hl => match us, hl with | [_, _, _], _ => rfl, F.ok sc__law_most (fun vs H Q E h => ?_) (fun cdv A outer s H vs Q E hr h => ?_)⟩
  · obtain ⟨a, x, y, rfl, _⟩ := h
    rfl
  · obtain ⟨a, x, y, rfl, hb, hxy, q⟩ := h
    refine ⟨_, pss_cons (ps_if (pt_cmpR op_eq (pe_callO (ok__law_draw T) hr rfl (pa_cons (pv 0) (pa_cons pe_int pa_nil))) pe_int (nomark _)) (pss_one (ps_ret (pv 2))) pss_nil) (pss_one (ps_ret (pv 1))), ?_⟩
    refine ⟨_, rfl, a, 8, rfl, hb, by decide, fun H1 r b1 r0 r1 => ⟨rfl, _, rfl, ?_⟩⟩
    exact ite2 (fun h => ⟨_, rfl, q _ _ b1 hxy (Int.le_refl _)⟩) (fun h => ⟨_, rfl, q _ _ b1 (Int.le_refl _) hxy⟩)
end
end K6

set_option Elab.async false
set_option linter.all false
set_option maxRecDepth 100000
set_option maxHeartbeats 4000000
/-! KW13: what the law draws: words, names, rows. -/
namespace K6
open PySem PySem.Spec PyProof.Rows L2
/-- a comprehension that draws -/
theorem lc_bag {J : It} {n : Nat} {G : Hp → Prop} {Y : Nat → Hp → V → Hp → Prop} (w : Walk J n G Y) {te : TE} {i : Nat} {σ : L2.St} {H : Hp} {D a : Addr} {Qd : Hp → Prop} (R : Hp → V → Prop)
    (hR : ∀ H1 H2 x, (∀ b ys, H1 b = some (.tup ys) → H2 b = some (.tup ys)) → R H1 x → R H2 x) (hD : H D = none) (hb : BagAt H a) (hn : n ≤ 4000000) (hG : ∀ H1, (∀ b x, H b = some x → b ≠ a → H1 b = some x) → G H1)
    (hs : ∀ j x H1 H2, j < n → Bg a H H1 → Y j H1 x H2 → H2 = H1 ∧ ∀ Q : VK, (∀ H3 y, Bg a H1 H3 → R H3 y → Q y H3) → te (σ.set i (some x)) H1 Q)
    (hd : ∀ H' acc, Bg a H H' → H' D = some (.lst acc) → acc.length = n → (∀ x ∈ acc, R H' x) → Qd H') :
    ∃ W : Nat → Nat → Hp → Prop, (∃ m, W 0 m (upd H D (.lst []))) ∧ ∀ j m H, W j m H →
      (J.stop j H ∧ Qd H) ∨ (J.go j H ∧ ∃ Nx : Hp → Prop, (∀ H', Nx H' → ∃ m', m' < m ∧ W (j + 1) m' H') ∧ ∀ x H', J.yld j H x H' → gName i x (wipe σ [i]) H' fun σ2 H2 => wipe σ2 [i] = wipe σ [i] ∧ tYes σ2 H2 fun b H3 =>
        if b = true then te σ2 H3 fun y H4 => ∃ acc, H4 D = some (.lst acc) ∧ acc.length < sizeLine ∧ Nx (upd H4 D (.lst (acc ++ [y]))) else Nx H3) := by
  have hDa : D ≠ a := hb.ne hD
  refine lc_it (n := n) (G := G) w (fun j H' => Bg a H H' ∧ ∃ acc, H' D = some (.lst acc) ∧ acc.length = j ∧ ∀ x ∈ acc, R H' x) ⟨Bg.of_same hb (same_new hD), [], upd_same, rfl, fun x hx => nomatch hx⟩ (fun j H1 _ h1 => hG _ h1.1.1) ?_ (fun H' ⟨h1, acc, h2, h3, h4⟩ => hd H' acc h1 h2 h3 h4)
  rintro j x H1 H2 hj ⟨h1, acc, h2, h3, h4⟩ hy
  obtain ⟨rfl, he⟩ := hs j x H1 H2 hj h1 hy
  have e1 : (wipe σ [i]).set i (some x) = σ.set i (some x) := by
    show (σ.set i none).set i _ = _
    rw [List.set_set]
  have e2 : wipe ((wipe σ [i]).set i (some x)) [i] = wipe σ [i] := by
    rw [e1]
    show (σ.set i _).set i none = σ.set i none
    rw [List.set_set]
  refine ⟨e2, ?_⟩
  show te ((wipe σ [i]).set i (some x)) _ _
  rw [e1]
  refine he _ fun H3 y b3 r3 => ⟨acc, b3.1 _ _ h2 hDa, by rw [h3]; show j < 16777216; omega, ?_, acc ++ [y], upd_same, by rw [List.length_append, h3]; rfl, fun z hz => ?_⟩
  · have h3' := h1.trans b3
    refine ⟨fun c x e hne => ?_, ?_⟩
    · rw [upd_ne (ne_of_none e hD)]
      exact h3'.1 c x e hne
    · obtain ⟨d, k, yy, hb3, hyy⟩ := h3'.2
      exact ⟨d, k, yy, by rw [upd_ne hDa.symm]; exact hb3, hyy⟩
  · have hD3 := b3.1 _ _ h2 hDa
    have kt : ∀ b ys, H3 b = some (.tup ys) → (upd H3 D (.lst (acc ++ [y]))) b = some (.tup ys) := put_tup hD3
    rcases List.mem_append.mp hz with hz | hz
    · exact hR _ _ _ kt (hR _ _ _ (b3.tup h1.bag) (h4 z hz))
    · rw [List.mem_singleton.mp hz]
      exact hR _ _ _ kt r3
theorem texts_of (m : Nat) : ∀ (acc : List V), (∀ x ∈ acc, ∃ s : PySem.Str, x = .str s ∧ s.length ≤ m) → ∃ ys : List PySem.Str, acc = ys.map V.str ∧ (ys.map (·.length)).sum ≤ m * acc.length ∧ ys.length = acc.length
  | [], _ => ⟨[], rfl, Nat.zero_le _, rfl⟩
  | x :: r, h => by
    obtain ⟨s, hs, hm⟩ := h x (by simp)
    obtain ⟨ys, h1, h2, h3⟩ := texts_of m r fun z hz => h z (List.mem_cons_of_mem _ hz)
    subst hs
    refine ⟨s :: ys, by rw [h1]; rfl, ?_, by simp [h3]⟩
    rw [List.map_cons, List.sum_cons, List.length_cons, Nat.mul_succ]
    omega
theorem join_emp : ∀ (ys : List PySem.Str), (Txt.join (PySem.Str.ofString "") ys).length = (ys.map (·.length)).sum
  | [] => rfl
  | a :: l => by
    have h := PyProof.Rows.len_join_cons (PySem.Str.ofString "") a l
    have e : (PySem.Str.ofString "").length = 0 := by decide +kernel
    rw [e, Nat.mul_zero, Nat.add_zero] at h
    show (PySem.Builtin.Str.glued (PySem.Str.ofString "") (a :: l)).length = _
    rw [StrLaws.glued_eq_join]
    exact h
def strsLe (m : Nat) (xs : List V) : Bool := xs.all fun x => match x with
  | .str z => decide (z.length ≤ m)
  | _ => false
theorem in_strs {m : Nat} {xs : List V} (h : strsLe m xs = true) {x : V} (hx : x ∈ xs) : ∃ z : PySem.Str, x = .str z ∧ z.length ≤ m := by
  unfold strsLe at h
  rw [List.all_eq_true] at h
  have := h x hx
  split at this
  · exact ⟨_, rfl, of_decide_eq_true this⟩
  · cases this
def intsLe (m : Int) (xs : List V) : Bool := xs.all fun x => match x with
  | .int z => decide (0 ≤ z) && decide (z ≤ m)
  | _ => false
theorem in_ints {m : Int} {xs : List V} (h : intsLe m xs = true) {x : V} (hx : x ∈ xs) : ∃ z : Int, x = .int z ∧ 0 ≤ z ∧ z ≤ m := by
  unfold intsLe at h
  rw [List.all_eq_true] at h
  have := h x hx
  split at this
  · rw [Bool.and_eq_true, decide_eq_true_eq, decide_eq_true_eq] at this
    exact ⟨_, rfl, this⟩
  · cases this
theorem str_len_app (a b : PySem.Str) : (a ++ b).length = a.length + b.length := by
  show (a.cps ++ b.cps).size = _
  rw [Array.size_append]
  rfl
theorem side_asks (b : Bool) : decide (sideV b = V.str (PySem.Str.ofString "asks")) = !b := by
  cases b <;> decide +kernel
theorem side_answers (b : Bool) : decide (sideV b = V.str (PySem.Str.ofString "answers")) = b := by
  cases b <;> decide +kernel
/-- behind the first statement R holds -/
theorem seq_mid {t u : TS} {D : Ends} {σ : L2.St} {H : Hp} (R : L2.St → Hp → Prop) (h2 : ∀ σ' H', R σ' H' → u D σ' H') (h1 : ∀ nx : L2.St → Hp → Prop, (∀ σ' H', R σ' H' → nx σ' H') → t { D with nx := nx } σ H) : tSeq t u D σ H := h1 (u D) h2
section
variable {P : Program} {w : World} {K : PySem.W.Frag} {mg : PySem.Str → Option Value} {base : Heap}
def sp__law_word : Sp := fun vs H Q _ => ∃ (a : Addr) (u : PySem.Str) (lo hi : Int), vs = [.ref a, .str u, .int lo, .int hi] ∧ BagAt H a ∧ 1 ≤ u.length ∧ u.length ≤ 1000 ∧ 0 ≤ lo ∧ lo ≤ hi ∧ hi ≤ 1000 ∧ ∀ H' (z : PySem.Str), Bg a H H' → (z.length : Int) ≤ hi → Q (.str z) H'
theorem ok__law_word (T : Txt K mg) : Ok P w K mg base CX0 "_law_word" 2 ["_law_bag_here", "_law_signs_here", "_law_least", "_law_most_here"] sp__law_word := by
  obtain ⟨f, fd, hm, F⟩ := T._law_word
  refine ⟨f, fd, hm, F.kp, F.binds fun _ _ _ _ _ _ us hl => match us, hl with | [_, _, _, _], _ => rfl, F.ok sc__law_word (fun vs H Q E h => ?_) (fun cdv A outer s H vs Q E hr h => ?_)⟩
  · obtain ⟨a, u, lo, hi, rfl, _⟩ := h
    rfl
  · obtain ⟨a, u, lo, hi, rfl, hb, hu1, hu2, h0, h1, h2, q⟩ := h
    have hul : u.length ≤ sizeLine := Nat.le_trans hu2 (by decide)
    refine ⟨_, pss_cons (ps_set (i := 4) sc__law_word.nd rfl (Or.inl rfl) (pe_op op_add (pv 2) (pe_callO (ok__law_draw T) hr rfl (pa_cons (pv 0) (pa_cons (pe_op op_add (pe_op op_sub (pv 3) (pv 2)) pe_int) pa_nil))))) (pss_one (ps_ret (pe_join pe_str (pe_lc (own := [("_law_k", 5)]) (g := gName 5) (tt := tYes) rfl sc__law_word.nd (pi_range1 rfl T.range (pa_cons (pv 4) pa_nil)) (blkOk_by (N := ["_law_bag_here", "_law_signs_here", "_law_least", "_law_most_here", "_law_size", "_law_k"]) (sc := defScope s__law_word) (by decide +kernel)) (fun _ _ _ _ _ => pg_name (i := 5) sc__law_word.nd rfl (Or.inl rfl)) (fun _ _ _ _ _ => pts_nil) (fun _ _ _ _ _ => (pe_ix ix_str (pv 1) (pe_callO (ok__law_draw T) hr rfl (pa_cons (pv 0) (pa_cons (pe_callB call_len_str rfl T.len (by decide +kernel) (pa_cons (pv 1) pa_nil)) pa_nil))) (fun _ _ => rfl))))))), ?_⟩
    refine ⟨_, rfl, _, rfl, _, rfl, _, rfl, _, _, rfl, rfl, _, _, rfl, rfl, a, _, rfl, hb, by omega, fun H1 r b1 r0 r1 => ⟨_, _, rfl, rfl, ?_⟩⟩
    have hr : lo + r ≤ hi := by omega
    refine ⟨⟨_, rfl⟩, _, rfl, _, rfl, by omega, by omega, fun D hD => ?_⟩
    refine lc_bag (n := (lo + r).toNat) (G := fun _ => True) walk_range (a := a) (fun _ x => ∃ s : PySem.Str, x = .str s ∧ s.length ≤ 1) (fun _ _ _ _ h => h) hD b1.bag (by omega) (fun _ _ => trivial) ?_ ?_
    · rintro j x H2 H3 hj b2 ⟨rfl, rfl⟩
      refine ⟨rfl, fun Q' k => ?_⟩
      refine ⟨_, rfl, _, rfl, _, rfl, _, rfl, hul, a, _, rfl, b2.bag, by omega, fun H4 r' b3 r0' r1' => ?_⟩
      have hr' : r'.toNat < u.cps.toList.length := by
        have : u.cps.toList.length = u.length := rfl
        omega
      have hat : atI u.cps.toList r' = some u.cps.toList[r'.toNat] := by
        have e : ((r'.toNat : Nat) : Int) = r' := by omega
        have := atI_nat (List.getElem?_eq_getElem hr')
        rw [e] at this
        exact this
      exact ⟨_, _, _, rfl, rfl, hul, hat, k _ _ b3 ⟨_, rfl, Nat.le_refl _⟩⟩
    · intro H' acc b2 hD' hlen hacc
      obtain ⟨ys, rfl, hsum, hyl⟩ := texts_of 1 acc hacc
      refine ⟨_, _, ys, rfl, rfl, .inl (SqL.of hD'), ?_, q _ _ (b1.trans b2) ?_⟩
      · rw [show (PySem.Str.ofString "").length = 0 from by decide +kernel]
        omega
      · rw [join_emp]
        omega
def sp__law_name : Sp := fun vs H Q _ => ∃ a : Addr, vs = [.ref a] ∧ BagAt H a ∧ ∀ H' (z : PySem.Str), Bg a H H' → z.length ≤ 30 → Q (.str z) H'
theorem ok__law_name (T : Txt K mg) : Ok P w K mg base CX0 "_law_name" 3 ["_law_bag_here"] sp__law_name := by
  obtain ⟨f, fd, hm, F⟩ := T._law_name
  refine ⟨f, fd, hm, F.kp, F.binds fun _ _ _ _ _ _ us hl => match us, hl with | [_], _ => rfl, F.ok sc__law_name (fun vs H Q E h => ?_) (fun cdv A outer s H vs Q E hr h => ?_)⟩
  · obtain ⟨a, rfl, _⟩ := h
    rfl
  · obtain ⟨a, rfl, hb, q⟩ := h
    refine ⟨_, pss_cons (ps_set (i := 1) sc__law_name.nd rfl (Or.inl rfl) (pe_op op_add_str (pe_callO0 (ok__law_letters T) hr rfl) pe_str)) (pss_cons (ps_set (i := 2) sc__law_name.nd rfl (Or.inl rfl) (pe_op op_add_str (pe_callO (ok__law_word T) hr rfl (pa_cons (pv 0) (pa_cons (pe_callO0 (ok__law_letters T) hr rfl) (pa_cons pe_int (pa_cons pe_int pa_nil))))) (pe_callO (ok__law_word T) hr rfl (pa_cons (pv 0) (pa_cons (pv 1) (pa_cons pe_int (pa_cons (pe_callO (ok__law_most T) hr rfl (pa_cons (pv 0) (pa_cons pe_int (pa_cons pe_int pa_nil)))) pa_nil))))))) (pss_cons (ps_if (pt_cmpR op_eq (pv 2) pe_str (nomark _)) (pss_one (ps_ret pe_str)) pss_nil) (pss_one (ps_ret (pv 2))))), ?_⟩
    refine ⟨rfl, _, _, rfl, rfl, by decide +kernel, ?_⟩
    rw [letName]
    refine ⟨_, rfl, rfl, a, _, 1, 1, rfl, hb, by decide +kernel, by decide +kernel, by decide, by decide, by decide, fun H1 z1 b1 l1 => ?_⟩
    refine ⟨_, rfl, _, rfl, _, rfl, a, 2, 29, rfl, b1.bag, by decide, fun H2 m b2 m0 m1 => ?_⟩
    refine ⟨a, S nameSigns, 0, m, rfl, b2.bag, by decide +kernel, by decide +kernel, by decide, by omega, by omega, fun H3 z2 b3 l2 => ?_⟩
    have hz : (z1 ++ z2).length ≤ 30 := by rw [str_len_app]; omega
    refine ⟨_, _, rfl, rfl, by rw [← str_len_app]; exact Nat.le_trans hz (by decide), _, rfl, rfl, _, rfl, ?_⟩
    have b := (b1.trans b2).trans b3
    exact ite2 (fun h => q _ _ b (by decide +kernel)) (fun h => ⟨_, rfl, q _ _ b hz⟩)
def sp__law_value : Sp := fun vs H Q _ => ∃ a : Addr, vs = [.ref a] ∧ BagAt H a ∧ ∀ H' (z : PySem.Str), Bg a H H' → z.length ≤ 200 → Q (.str z) H'
theorem ok__law_value (T : Txt K mg) : Ok P w K mg base CX0 "_law_value" 3 ["_law_bag_here"] sp__law_value := by
  obtain ⟨f, fd, hm, F⟩ := T._law_value
  refine ⟨f, fd, hm, F.kp, F.binds fun _ _ _ _ _ _ us hl => match us, hl with | [_], _ => rfl, F.ok sc__law_value (fun vs H Q E h => ?_) (fun cdv A outer s H vs Q E hr h => ?_)⟩
  · obtain ⟨a, rfl, _⟩ := h
    rfl
  · obtain ⟨a, rfl, hb, q⟩ := h
    refine ⟨_, pss_one (ps_ret (pe_bm PySem.F.plainAttrs_str PySem.F.slot_str_strip PySem.F.type_str_strip mt_stripChars (pe_callO (ok__law_word T) hr rfl (pa_cons (pv 0) (pa_cons (pe_callO0 (ok__law_signs T) hr rfl) (pa_cons pe_int (pa_cons (pe_callO (ok__law_most T) hr rfl (pa_cons (pv 0) (pa_cons pe_int (pa_cons pe_int pa_nil)))) pa_nil))))) (pa_cons pe_str pa_nil))), ?_⟩
    refine ⟨_, rfl, rfl, _, rfl, a, 4, 200, rfl, hb, by decide, fun H2 m b2 m0 m1 => ?_⟩
    refine ⟨a, S signsT, 0, m, rfl, b2.bag, by decide +kernel, by decide +kernel, by decide, by omega, by omega, fun H3 z2 b3 l2 => ?_⟩
    have hz : z2.length ≤ 200 := by omega
    exact ⟨rfl, _, _, rfl, rfl, Nat.le_trans hz (by decide), q _ _ (b2.trans b3) (Nat.le_trans (PyProof.Rows.len_stripChars _ _) hz)⟩
def StrLe (m : Nat) : Hp → V → Prop := fun _ x => ∃ s : PySem.Str, x = .str s ∧ s.length ≤ m
def sp__law_names : Sp := fun vs H Q _ => ∃ a : Addr, vs = [.ref a] ∧ BagAt H a ∧ ∀ H' l acc, Bg a H H' → H l = none → H' l = some (.lst acc) → 1 ≤ acc.length → acc.length ≤ 3 → (∀ x ∈ acc, StrLe 30 H' x) → Q (.ref l) H'
theorem ok__law_names (T : Txt K mg) : Ok P w K mg base CX0 "_law_names" 4 ["_law_bag_here"] sp__law_names := by
  obtain ⟨f, fd, hm, F⟩ := T._law_names
  refine ⟨f, fd, hm, F.kp, F.binds fun _ _ _ _ _ _ us hl => match us, hl with | [_], _ => rfl, F.ok sc__law_names (fun vs H Q E h => ?_) (fun cdv A outer s H vs Q E hr h => ?_)⟩
  · obtain ⟨a, rfl, _⟩ := h
    rfl
  · obtain ⟨a, rfl, hb, q⟩ := h
    refine ⟨_, pss_one (ps_ret (pe_lc (own := [("_law_k", 1)]) (g := gName 1) (tt := tYes) rfl sc__law_names.nd (pi_range1 rfl T.range (pa_cons (pe_op op_add pe_int (pe_callO (ok__law_draw T) hr rfl (pa_cons (pv 0) (pa_cons pe_int pa_nil)))) pa_nil)) (blkOk_by (N := ["_law_bag_here", "_law_k"]) (sc := defScope s__law_names) (by decide +kernel)) (fun _ _ _ _ _ => pg_name (i := 1) sc__law_names.nd rfl (Or.inl rfl)) (fun _ _ _ _ _ => pts_nil) (fun _ _ _ _ _ => (pe_callO (ok__law_name T) hr rfl (pa_cons (pv 0) pa_nil))))), ?_⟩
    refine ⟨_, rfl, a, 3, rfl, hb, by decide, fun H1 r b1 r0 r1 => ⟨_, _, rfl, rfl, _, rfl, by omega, by omega, fun D hD => ?_⟩⟩
    refine lc_bag (n := (1 + r).toNat) (G := fun _ => True) walk_range (a := a) (StrLe 30) (fun _ _ _ _ h => h) hD b1.bag (by omega) (fun _ _ => trivial) ?_ ?_
    · rintro j x H2 H3 hj b2 ⟨rfl, rfl⟩
      exact ⟨rfl, fun Q' k => ⟨_, rfl, a, rfl, b2.bag, fun H4 z b3 hz => k _ _ b3 ⟨_, rfl, hz⟩⟩⟩
    · intro H' acc b2 hD' hlen hacc
      exact q _ D acc (b1.trans b2) (b1.free hb hD) hD' (by omega) (by omega) hacc
def sp__law_body : Sp := fun vs H Q _ => ∃ a : Addr, vs = [.ref a] ∧ BagAt H a ∧ ∀ H' (z : PySem.Str), Bg a H H' → z.length ≤ 700 → Q (.str z) H'
theorem ok__law_body (T : Txt K mg) : Ok P w K mg base CX0 "_law_body" 3 ["_law_bag_here"] sp__law_body := by
  obtain ⟨f, fd, hm, F⟩ := T._law_body
  refine ⟨f, fd, hm, F.kp, F.binds fun _ _ _ _ _ _ us hl => match us, hl with | [_], _ => rfl, F.ok sc__law_body (fun vs H Q E h => ?_) (fun cdv A outer s H vs Q E hr h => ?_)⟩
  · obtain ⟨a, rfl, _⟩ := h
    rfl
  · obtain ⟨a, rfl, hb, q⟩ := h
    refine ⟨_, pss_cons (ps_set (i := 1) sc__law_body.nd rfl (Or.inl rfl) (pe_callO (ok__law_draw T) hr rfl (pa_cons (pv 0) (pa_cons pe_int pa_nil)))) (pss_cons (ps_if (pt_cmpR op_eq (pv 1) pe_int (nomark _)) (pss_one (ps_ret (pe_callO (ok__law_pick T) hr rfl (pa_cons (pv 0) (pa_cons (pe_lst (pa_cons pe_str (pa_cons pe_str (pa_cons pe_str (pa_cons pe_str (pa_cons pe_str (pa_cons pe_str (pa_cons pe_str pa_nil)))))))) pa_nil))))) pss_nil) (pss_cons (ps_if (pt_cmpR op_eq (pv 1) pe_int (nomark _)) (pss_one (ps_ret pe_str)) pss_nil) (pss_cons (ps_if (pt_cmpR op_eq (pv 1) pe_int (nomark _)) (pss_one (ps_ret (pe_op op_mul_str (pe_callO (ok__law_pick T) hr rfl (pa_cons (pv 0) (pa_cons (pe_lst (pa_cons pe_str (pa_cons pe_str (pa_cons pe_str pa_nil)))) pa_nil))) (pe_op op_add pe_int (pe_callO (ok__law_draw T) hr rfl (pa_cons (pv 0) (pa_cons pe_int pa_nil))))))) pss_nil) (pss_one (ps_ret (pe_callO (ok__law_word T) hr rfl (pa_cons (pv 0) (pa_cons (pe_op op_add_str (pe_callO0 (ok__law_signs T) hr rfl) pe_str) (pa_cons pe_int (pa_cons pe_int pa_nil)))))))))), ?_⟩
    refine ⟨_, rfl, a, 5, rfl, hb, by decide, fun H1 r b1 r0 r1 => ⟨_, rfl, rfl, _, rfl, ?_⟩⟩
    refine ite2 (fun h => ?_) (fun h => ⟨_, rfl, rfl, _, rfl, ?_⟩)
    · refine ⟨_, rfl, by show 7 ≤ sizeLine; decide, fun l hl => ?_⟩
      refine .inl ⟨a, l, _, rfl, b1.bag.same (same_new hl), upd_same, b1.bag.ne hl, by show 1 ≤ 7; decide, by show 7 ≤ 4000000; decide, fun H2 x b2 hx => ?_⟩
      obtain ⟨z, rfl, hz⟩ := in_strs (m := 700) (by decide +kernel) hx
      exact q _ _ ((b1.same (same_new hl)).trans b2) hz
    · refine ite2 (fun h => q _ _ b1 (by decide +kernel)) (fun h => ⟨_, rfl, rfl, _, rfl, ?_⟩)
      refine ite2 (fun h => ?_) (fun h => ?_)
      · refine ⟨_, rfl, by show 3 ≤ sizeLine; decide, fun l hl => ?_⟩
        refine .inl ⟨a, l, _, rfl, b1.bag.same (same_new hl), upd_same, b1.bag.ne hl, by show 1 ≤ 3; decide, by show 3 ≤ 4000000; decide, fun H2 x b2 hx => ?_⟩
        obtain ⟨z, rfl, hz⟩ := in_strs (m := 5) (by decide +kernel) hx
        refine ⟨_, rfl, a, 120, rfl, b2.bag, by decide, fun H3 r3 b3 r30 r31 => ⟨_, _, rfl, rfl, _, _, rfl, rfl, by omega, by omega, Nat.le_trans hz (by decide), fun y hy => ?_⟩⟩
        refine q _ _ (((b1.same (same_new hl)).trans b2).trans b3) ?_
        rw [hy]
        exact Nat.le_trans (Nat.mul_le_mul hz (show (1 + r3).toNat ≤ 120 from by omega)) (by decide)
      · refine ⟨_, rfl, rfl, _, _, rfl, rfl, by decide +kernel, a, _, 0, 9, rfl, b1.bag, by decide +kernel, by decide +kernel, by decide, by decide, by decide, fun H3 z2 b3 l2 => ?_⟩
        exact q _ _ (b1.trans b3) (by omega)
/-- a tuple of two short texts -/
def PairLe (n m : Nat) : Hp → V → Prop := fun H x => ∃ (p : Addr) (s t : PySem.Str), x = .ref p ∧ H p = some (.tup [.str s, .str t]) ∧ s.length ≤ n ∧ t.length ≤ m
def RowW (N : Addr → Prop) (H : Hp) (x : V) : Prop := ∃ (p fa : Addr) (st bd : PySem.Str) (xs : List V), x = .ref p ∧ H p = some (.tup [.str st, .ref fa, .str bd]) ∧ N fa ∧ H fa = some (.lst xs) ∧ xs.length ≤ 40 ∧ (∀ y ∈ xs, PairLe 30 200 H y) ∧ st.length ≤ 100 ∧ bd.length ≤ 700
theorem in_list {H : Hp} {n : Nat} {acc : List V} (h : ∀ x ∈ acc, StrLe n H x) {x : V} (hx : x ∈ acc) : ∃ z : PySem.Str, x = .str z ∧ z.length ≤ n := h x hx
def sp__law_row : Sp := fun vs H Q _ => ∃ (a l : Addr) (b : Bool) (ns : List V), vs = [.ref a, sideV b, .ref l] ∧ BagAt H a ∧ H l = some (.lst ns) ∧ l ≠ a ∧ 1 ≤ ns.length ∧ ns.length ≤ 3 ∧ (∀ x ∈ ns, StrLe 30 H x) ∧ ∀ H' x, Bg a H H' → RowW (fun z => H z = none) H' x → Q x H'
theorem ok__law_row (T : Txt K mg) : Ok P w K mg base CX0 "_law_row" 4 ["_law_bag_here", "_law_side", "_law_names_here"] sp__law_row := by
  obtain ⟨f, fd, hm, F⟩ := T._law_row
  refine ⟨f, fd, hm, F.kp, F.binds fun _ _ _ _ _ _ us hl => match us, hl with | [_, _, _], _ => rfl, F.ok sc__law_row (fun vs H Q E h => ?_) (fun cdv A outer s H vs Q E hr h => ?_)⟩
  · obtain ⟨a, l, b, ns, rfl, _⟩ := h
    rfl
  · obtain ⟨a, l, b, ns, rfl, hb, hl, hla, hn1, hn2, hns, q⟩ := h
    refine ⟨_, pss_cons (ps_if (pt_cmpR op_eq (pv 1) pe_str (nomark _)) (pss_cons (ps_set (i := 6) sc__law_row.nd rfl (Or.inl rfl) (pe_op op_add_str pe_str (pe_callO (ok__law_word T) hr rfl (pa_cons (pv 0) (pa_cons (pe_op op_add_str (pe_callO0 (ok__law_letters T) hr rfl) pe_str) (pa_cons pe_int (pa_cons (pe_callO (ok__law_most T) hr rfl (pa_cons (pv 0) (pa_cons pe_int (pa_cons pe_int pa_nil)))) pa_nil))))))) (pss_one (ps_set (i := 7) sc__law_row.nd rfl (Or.inl rfl) (pe_op op_add_str (pe_op op_add_str (pe_op op_add_str pe_str (pe_callO (ok__law_pick T) hr rfl (pa_cons (pv 0) (pa_cons (pe_lst (pa_cons pe_str (pa_cons pe_str (pa_cons pe_str pa_nil)))) pa_nil)))) pe_str) (pv 6))))) (pss_one (ps_set (i := 7) sc__law_row.nd rfl (Or.inl rfl) (pe_op op_add_str pe_str (pe_callO (ok__law_pick T) hr rfl (pa_cons (pv 0) (pa_cons (pe_callO0 (ok__law_statuses T) hr rfl) pa_nil))))))) (pss_cons (ps_set (i := 3) sc__law_row.nd rfl (Or.inl rfl) (pe_callO (ok__law_pick T) hr rfl (pa_cons (pv 0) (pa_cons (pe_lst (pa_cons pe_int (pa_cons pe_int (pa_cons pe_int (pa_cons pe_int pa_nil))))) pa_nil)))) (pss_cons (ps_if (pt_cmpR op_eq (pe_callO (ok__law_draw T) hr rfl (pa_cons (pv 0) (pa_cons pe_int pa_nil))) pe_int (nomark _)) (pss_one (ps_set (i := 3) sc__law_row.nd rfl (Or.inl rfl) (pe_op op_add pe_int (pe_callO (ok__law_draw T) hr rfl (pa_cons (pv 0) (pa_cons pe_int pa_nil)))))) pss_nil) (pss_cons (ps_setLc (i := 4) (own := [("_law_k", 8)]) (g := gName 8) (tt := tYes) rfl sc__law_row.nd rfl rfl (sw_true rfl rfl rfl (by decide +kernel)) (pi_range1 rfl T.range (pa_cons (pv 3) pa_nil)) (blkOk_by (N := ["_law_bag_here", "_law_side", "_law_names_here", "_law_count", "_law_fields", "_law_body_here", "_law_path", "_law_start", "_law_k"]) (sc := defScope s__law_row) (by decide +kernel)) (fun _ _ _ _ _ => pg_name (i := 8) sc__law_row.nd rfl (Or.inl rfl)) (fun _ _ _ _ _ => pts_nil) (fun _ _ _ _ _ => (pe_tup (pa_cons (pe_callO (ok__law_pick T) hr rfl (pa_cons (pv 0) (pa_cons (pv 2) pa_nil))) (pa_cons (pe_callO (ok__law_value T) hr rfl (pa_cons (pv 0) pa_nil)) pa_nil))))) (pss_cons (ps_set (i := 5) sc__law_row.nd rfl (Or.inl rfl) pe_str) (pss_cons (ps_if (pt_val (pe_callO (ok__law_may T) hr rfl (pa_cons (pv 7) pa_nil))) (pss_one (ps_set (i := 5) sc__law_row.nd rfl (Or.inl rfl) (pe_callO (ok__law_body T) hr rfl (pa_cons (pv 0) pa_nil)))) pss_nil) (pss_one (ps_ret (pe_tup (pa_cons (pv 7) (pa_cons (pv 4) (pa_cons (pv 5) pa_nil))))))))))), ?_⟩
    refine seq_mid (fun σ' H' => ∃ (st : PySem.Str) (v3 v4 v5 v6 v8 : Option V), σ' = [some (.ref a), some (sideV b), some (.ref l), v3, v4, v5, v6, some (.str st), v8] ∧ Bg a H H' ∧ st.length ≤ 100) ?_ ?_
    · rintro σ1 H1 ⟨st, v3, v4, v5, v6, v8, rfl, b1, hst⟩
      refine seq_mid (fun σ' H' => ∃ (n : Int) (v4 v5 v6 v8 : Option V), σ' = [some (.ref a), some (sideV b), some (.ref l), some (.int n), v4, v5, v6, some (.str st), v8] ∧ Bg a H H' ∧ 0 ≤ n ∧ n ≤ 3) ?_ ?_
      rotate_left
      · intro nx hnx
        refine ⟨_, rfl, by show 4 ≤ sizeLine; decide, fun l1 hl1 => ?_⟩
        refine .inl ⟨a, l1, _, rfl, b1.bag.same (same_new hl1), upd_same, b1.bag.ne hl1, by show 1 ≤ 4; decide, by show 4 ≤ 4000000; decide, fun H2 x b2 hx => ?_⟩
        obtain ⟨n, rfl, n0, n1⟩ := in_ints (m := 3) (by decide +kernel) hx
        exact hnx _ _ ⟨n, _, _, _, _, rfl, (b1.same (same_new hl1)).trans b2, n0, n1⟩
      rintro σ1 H2 ⟨n, v4, v5, v6, v8, rfl, b2, n0, n1⟩
      refine seq_mid (fun σ' H' => ∃ (n : Int) (v4 v5 v6 v8 : Option V), σ' = [some (.ref a), some (sideV b), some (.ref l), some (.int n), v4, v5, v6, some (.str st), v8] ∧ Bg a H H' ∧ 0 ≤ n ∧ n ≤ 40) ?_ ?_
      rotate_left
      · intro nx hnx
        refine ⟨_, rfl, a, 16, rfl, b2.bag, by decide, fun H3 r b3 r0 r1 => ⟨rfl, _, rfl, ?_⟩⟩
        refine ite2 (fun h => ⟨_, rfl, a, 5, rfl, b3.bag, by decide, fun H4 r4 b4 r40 r41 => ⟨_, _, rfl, rfl, ?_⟩⟩) (fun h => ?_)
        · exact hnx _ _ ⟨36 + r4, _, _, _, _, rfl, (b2.trans b3).trans b4, by omega, by omega⟩
        · exact hnx _ _ ⟨n, _, _, _, _, rfl, b2.trans b3, n0, by omega⟩
      rintro σ2 H3 ⟨n, v4, v5, v6, v8, rfl, b3, n0, n1⟩
      refine seq_mid (fun σ' H' => ∃ (D : Addr) (acc : List V) (v5 v6 v8 : Option V), σ' = [some (.ref a), some (sideV b), some (.ref l), some (.int n), some (.ref D), v5, v6, some (.str st), v8] ∧ Bg a H H' ∧ H D = none ∧ H' D = some (.lst acc) ∧ acc.length ≤ 40 ∧ ∀ y ∈ acc, PairLe 30 200 H' y) ?_ ?_
      rotate_left
      · intro nx hnx
        refine ⟨_, rfl, n, rfl, by omega, by omega, fun D hD => ?_⟩
        have hDa : D ≠ a := b3.bag.ne hD
        refine lc_bag (n := n.toNat) (G := fun _ => True) walk_range (a := a) (PairLe 30 200) (fun H1 H2 x k ⟨p, s, t, e, h, r⟩ => ⟨p, s, t, e, k _ _ h, r⟩) hD b3.bag (by omega) (fun _ _ => trivial) ?_ ?_
        · rintro j x H4 H5 hj b4 ⟨rfl, rfl⟩
          refine ⟨rfl, fun Q' k => ?_⟩
          have bb := b3.trans b4
          refine ⟨_, rfl, _, rfl, .inl ⟨a, l, ns, rfl, b4.bag, bb.1 _ _ hl hla, hla, hn1, by omega, fun H6 x b5 hx => ?_⟩⟩
          obtain ⟨z, rfl, hz⟩ := hns x hx
          refine ⟨_, rfl, a, rfl, b5.bag, fun H7 z2 b6 hz2 => ⟨by show 2 ≤ sizeLine; decide, fun p hp => ?_⟩⟩
          exact k _ _ ((b5.trans b6).same (same_new hp)) ⟨p, z, z2, rfl, upd_same, hz, hz2⟩
        · intro H4 acc b4 hD4 hlen hacc
          exact hnx _ _ ⟨D, acc, _, _, _, rfl, b3.trans b4, b3.free hb hD, hD4, by omega, hacc⟩
      rintro σ2 H4 ⟨D, acc, v5, v6, v8, rfl, b4, hDn, hD4, hlen, hacc⟩
      refine seq_mid (fun σ' H' => ∃ (v6 v8 : Option V), σ' = [some (.ref a), some (sideV b), some (.ref l), some (.int n), some (.ref D), some (str ""), v6, some (.str st), v8] ∧ H' = H4) ?_ ?_
      rotate_left
      · intro nx hnx
        exact hnx _ _ ⟨_, _, rfl, rfl⟩
      rintro σ2 H4 ⟨v6, v8, rfl, rfl⟩
      refine seq_mid (fun σ' H' => ∃ (bd : PySem.Str) (v6 v8 : Option V), σ' = [some (.ref a), some (sideV b), some (.ref l), some (.int n), some (.ref D), some (.str bd), v6, some (.str st), v8] ∧ Bg a H H' ∧ bd.length ≤ 700 ∧ H' D = some (.lst acc) ∧ ∀ y ∈ acc, PairLe 30 200 H' y) ?_ ?_
      · rintro σ3 H5 ⟨bd, v6, v8, rfl, b5, hbd, hD5, hacc5⟩
        refine ⟨_, rfl, _, rfl, _, rfl, by show 3 ≤ sizeLine; decide, fun p hp => ?_⟩
        have s6 := same_new (o := .tup [.str st, .ref D, .str bd]) hp
        exact q _ _ (b5.same s6) ⟨p, D, st, bd, acc, rfl, upd_same, hDn, s6 _ _ hD5, hlen, fun y hy => by
          obtain ⟨p, s, t, e, h, r⟩ := hacc5 y hy
          exact ⟨p, s, t, e, s6 _ _ h, r⟩, hst, hbd⟩
      · intro nx hnx
        refine ⟨_, rfl, TL.tl st, by rw [S_tl]; rfl, _, rfl, ?_⟩
        refine ite2 (fun h => ⟨_, rfl, a, rfl, b4.bag, fun H5 z b5 hz => ?_⟩) (fun h => ?_)
        · refine hnx _ _ ⟨z, _, _, rfl, b4.trans b5, hz, b5.1 _ _ hD4 (hb.ne hDn), fun y hy => ?_⟩
          obtain ⟨p, s, t, e, h, r⟩ := hacc y hy
          exact ⟨p, s, t, e, b5.tup b4.bag _ _ h, r⟩
        · exact hnx _ _ ⟨_, _, _, rfl, b4, by decide +kernel, hD4, hacc⟩
    · intro nx hnx
      refine ⟨_, rfl, by cases b <;> rfl, _, rfl, ?_⟩
      rw [side_asks]
      refine ite2 (fun h => ?_) (fun h => ?_)
      · refine ⟨_, rfl, rfl, _, _, rfl, rfl, by decide +kernel, ?_⟩
        rw [letPath]
        refine ⟨_, rfl, a, 3, 59, rfl, hb, by decide, fun H2 m b2 m0 m1 => ?_⟩
        refine ⟨a, S pathSigns, 0, m, rfl, b2.bag, by decide +kernel, by decide +kernel, by decide, by omega, by omega, fun H3 z2 b3 l2 => ?_⟩
        have e1 : (PySem.Str.ofString "/").length = 1 := by decide +kernel
        have e2 : (PySem.Str.ofString "ask ").length = 4 := by decide +kernel
        have e3 : (PySem.Str.ofString " ").length = 1 := by decide +kernel
        refine ⟨_, _, rfl, rfl, by rw [e1]; show _ ≤ 16777216; omega, _, rfl, by show 3 ≤ sizeLine; decide, fun l1 hl1 => ?_⟩
        have b3 := b2.trans b3
        refine .inl ⟨a, l1, _, rfl, b3.bag.same (same_new hl1), upd_same, b3.bag.ne hl1, by show 1 ≤ 3; decide, by show 3 ≤ 4000000; decide, fun H4 x b4 hx => ?_⟩
        obtain ⟨z, rfl, hz⟩ := in_strs (m := 6) (by decide +kernel) hx
        refine ⟨_, _, rfl, rfl, by rw [e2]; show _ ≤ 16777216; omega, _, _, rfl, rfl, by rw [str_len_app, e2, e3]; show _ ≤ 16777216; omega, _, rfl, _, _, rfl, rfl, by rw [str_len_app, str_len_app, str_len_app, e1, e2, e3]; show _ ≤ 16777216; omega, ?_⟩
        exact hnx _ _ ⟨_, _, _, _, _, _, rfl, (b3.same (same_new hl1)).trans b4, by rw [str_len_app, str_len_app, str_len_app, str_len_app, e1, e2, e3]; omega⟩
      · refine ⟨_, rfl, rfl, fun H2 l1 s2 n1 hl1 => ?_⟩
        have b2 := Bg.of_same hb s2
        refine .inl ⟨a, l1, _, rfl, b2.bag, hl1, hb.ne n1, by decide +kernel, by decide +kernel, fun H4 x b4 hx => ?_⟩
        obtain ⟨z, rfl, hz⟩ := in_strs (m := 10) (by decide +kernel) hx
        have e2 : (PySem.Str.ofString "answer ").length = 7 := by decide +kernel
        refine ⟨_, _, rfl, rfl, by rw [e2]; show _ ≤ 16777216; omega, ?_⟩
        exact hnx _ _ ⟨_, _, _, _, _, _, rfl, b2.trans b4, by rw [str_len_app, e2]; omega⟩
end
end K6

set_option Elab.async false
set_option linter.all false
set_option maxRecDepth 100000
set_option maxHeartbeats 4000000
/-! KW14: loose forms, the stream. -/
namespace K6
open PySem PySem.Spec PyProof.Rows L2
theorem len_ofInt {n : Nat} (h : n < 10000) : (PySem.Str.ofString (toString ((n : Nat) : Int))).length ≤ 4 := PyProof.Rows.toString_length_le (by omega) (by decide) (by omega)
theorem log_small {n : Nat} (h : n < 10000000) : (((n : Nat) : Int)).natAbs.log2 < 1920 := by
  have e : (((n : Nat) : Int)).natAbs = n := by omega
  rw [e]
  by_cases h0 : n = 0
  · subst h0; decide +kernel
  · exact (Nat.log2_lt h0).mpr (Nat.lt_trans h (Nat.lt_trans (show 10000000 < 2 ^ 24 by decide) (Nat.pow_lt_pow_right (by decide) (by decide))))
section
variable {P : Program} {w : World} {K : PySem.W.Frag} {mg : PySem.Str → Option Value} {base : Heap}
def sp__law_loose_line : Sp := fun vs H Q _ => ∃ (a : Addr) (n v : PySem.Str), vs = [.ref a, .str n, .str v] ∧ BagAt H a ∧ n.length ≤ 30 ∧ v.length ≤ 200 ∧ ∀ H' (z : PySem.Str), Bg a H H' → z.length ≤ 300 → Q (.str z) H'
theorem ok__law_loose_line (T : Txt K mg) : Ok P w K mg base CX0 "_law_loose_line" 2 ["_law_bag_here", "_law_name_here", "_law_value_here"] sp__law_loose_line := by
  obtain ⟨f, fd, hm, F⟩ := T._law_loose_line
  refine ⟨f, fd, hm, F.kp, F.binds fun _ _ _ _ _ _ us hl => match us, hl with | [_, _, _], _ => rfl, F.ok sc__law_loose_line (fun vs H Q E h => ?_) (fun cdv A outer s H vs Q E hr h => ?_)⟩
  · obtain ⟨a, n, v, rfl, _⟩ := h
    rfl
  · obtain ⟨a, n, v, rfl, hb, hn, hv, q⟩ := h
    refine ⟨_, pss_cons (ps_set (i := 3) sc__law_loose_line.nd rfl (Or.inl rfl) (pe_join pe_str (pe_lc (own := [("_law_sign", 4)]) (g := gName 4) (tt := tYes) rfl sc__law_loose_line.nd (pi_str (pv 1)) (blkOk_by (N := ["_law_bag_here", "_law_name_here", "_law_value_here", "_law_shown", "_law_sign"]) (sc := defScope s__law_loose_line) (by decide +kernel)) (fun _ _ _ _ _ => pg_name (i := 4) sc__law_loose_line.nd rfl (Or.inl rfl)) (fun _ _ _ _ _ => pts_nil) (fun _ _ _ _ _ => (pe_ix (show IxR _ (rIxL K) from ix_list) (pe_lst (pa_cons (pv 4) (pa_cons (pe_upper (pv 4)) pa_nil))) (pe_callO (ok__law_draw T) hr rfl (pa_cons (pv 0) (pa_cons pe_int pa_nil))) (fun _ _ => rfl)))))) (pss_one (ps_ret (pe_op op_add_str (pe_op op_add_str (pe_op op_add_str (pe_op op_add_str (pe_op op_add_str (pv 3) pe_str) (pe_op op_mul_str pe_str (pe_callO (ok__law_draw T) hr rfl (pa_cons (pv 0) (pa_cons pe_int pa_nil))))) (pv 2)) (pe_op op_mul_str pe_str (pe_callO (ok__law_draw T) hr rfl (pa_cons (pv 0) (pa_cons pe_int pa_nil))))) pe_str))), ?_⟩
    have e1 : (PySem.Str.ofString ":").length = 1 := by decide +kernel
    have e2 : (PySem.Str.ofString " ").length = 1 := by decide +kernel
    have e3 : (PySem.Str.ofString "\n").length = 1 := by decide +kernel
    have e4 : (PySem.Str.ofString "").length = 0 := by decide +kernel
    refine ⟨⟨_, rfl⟩, _, rfl, _, rfl, fun D hD => ?_⟩
    refine lc_bag (n := n.cps.size) (G := fun _ => True) (walk_str (z := n)) (a := a) (StrLe 3) (fun _ _ _ _ h => h) hD hb (Nat.le_trans hn (by decide)) (fun _ _ => trivial) ?_ ?_
    · rintro j x H2 H3 hj b2 ⟨rfl, c, hc, rfl⟩
      refine ⟨rfl, fun Q' k => ?_⟩
      have hup : (Txt.upper (⟨#[c]⟩ : PySem.Str)).length ≤ 3 := PyProof.Rows.len_upper _
      refine ⟨_, rfl, _, rfl, ⟨_, rfl⟩, _, rfl, rfl, by show 1 ≤ 5592405; decide, by show 2 ≤ sizeLine; decide, fun l hl => ?_⟩
      refine ⟨_, rfl, a, 2, rfl, b2.bag.same (same_new hl), by decide, fun H4 r b3 r0 r1 => ?_⟩
      have hl4 := b3.1 l _ upd_same (b2.bag.ne hl)
      have b4 : Bg a _ H4 := (Bg.of_same b2.bag (same_new hl)).trans b3
      have hr : r = 0 ∨ r = 1 := by omega
      rcases hr with rfl | rfl
      · exact ⟨l, _, _, _, rfl, rfl, SqL.of hl4, atI_nat (j := 0) rfl, k _ _ b4 ⟨_, rfl, by show 1 ≤ 3; decide⟩⟩
      · exact ⟨l, _, _, _, rfl, rfl, SqL.of hl4, atI_nat (j := 1) rfl, k _ _ b4 ⟨_, rfl, hup⟩⟩
    · intro H1 acc b1 hD' hlen hacc
      obtain ⟨ys, rfl, hsum, hyl⟩ := texts_of 3 acc hacc
      have hn' : n.cps.size ≤ 30 := hn
      have hj : (Txt.join (PySem.Str.ofString "") ys).length ≤ 90 := by
        rw [join_emp]
        rw [hlen] at hsum
        omega
      refine ⟨_, _, ys, rfl, rfl, .inl (SqL.of hD'), by rw [e4]; omega, ?_⟩
      refine ⟨_, rfl, _, _, rfl, rfl, by rw [e1]; show _ ≤ 16777216; omega, _, rfl, a, 3, rfl, b1.bag, by decide, fun H2 r b2 r0 r1 => ⟨_, _, rfl, rfl, by omega, by omega, by rw [e2]; decide, fun z1 hz1 => ?_⟩⟩
      rw [e2, Nat.one_mul] at hz1
      refine ⟨_, _, rfl, rfl, by rw [str_len_app, e1]; show _ ≤ 16777216; omega, _, rfl, _, _, rfl, rfl, by rw [str_len_app, str_len_app, e1]; show _ ≤ 16777216; omega, _, rfl, a, 3, rfl, b2.bag, by decide, fun H3 r' b3 r0' r1' => ⟨_, _, rfl, rfl, by omega, by omega, by rw [e2]; decide, fun z2 hz2 => ?_⟩⟩
      rw [e2, Nat.one_mul] at hz2
      refine ⟨_, _, rfl, rfl, by rw [str_len_app, str_len_app, str_len_app, e1]; show _ ≤ 16777216; omega, _, _, rfl, rfl, by rw [str_len_app, str_len_app, str_len_app, str_len_app, e1, e3]; show _ ≤ 16777216; omega, ?_⟩
      exact q _ _ ((b1.trans b2).trans b3) (by rw [str_len_app, str_len_app, str_len_app, str_len_app, str_len_app, e1, e3]; omega)
def sp__law_loose_chunks : Sp := fun vs H Q _ => ∃ (a : Addr) (bd : Tx), vs = [.ref a, .str (S bd)] ∧ BagAt H a ∧ bd.length ≤ 700 ∧ ∀ H' (z : PySem.Str), Bg a H H' → z.length ≤ 800 → Q (.str z) H'
theorem ok__law_loose_chunks (T : Txt K mg) : Ok P w K mg base CX0 "_law_loose_chunks" 2 ["_law_bag_here", "_law_body_here"] sp__law_loose_chunks := by
  obtain ⟨f, fd, hm, F⟩ := T._law_loose_chunks
  refine ⟨f, fd, hm, F.kp, F.binds fun _ _ _ _ _ _ us hl => match us, hl with | [_, _], _ => rfl, F.ok sc__law_loose_chunks (fun vs H Q E h => ?_) (fun cdv A outer s H vs Q E hr h => ?_)⟩
  · obtain ⟨a, bd, rfl, _⟩ := h
    rfl
  · obtain ⟨a, bd0, rfl, hb, hbd, q⟩ := h
    refine ⟨_, pss_cons (ps_set (i := 2) sc__law_loose_chunks.nd rfl (Or.inl rfl) pe_str) (pss_cons (ps_for PassesOwn.never rfl (pi_range1 rfl T.range (pa_cons pe_int pa_nil)) (pg_name (i := 3) sc__law_loose_chunks.nd rfl (Or.inl rfl)) (pss_cons (ps_set (i := 4) sc__law_loose_chunks.nd rfl (Or.inl rfl) (pe_op op_add pe_int (pe_callO (ok__law_draw T) hr rfl (pa_cons (pv 0) (pa_cons pe_int pa_nil))))) (pss_cons (ps_if (pt_cmpR op_eq (pv 3) pe_int (nomark _)) (pss_one (ps_set (i := 4) sc__law_loose_chunks.nd rfl (Or.inl rfl) (pe_callB call_len_str rfl T.len (by decide +kernel) (pa_cons (pv 1) pa_nil)))) pss_nil) (pss_cons (ps_set (i := 5) sc__law_loose_chunks.nd rfl (Or.inl rfl) (pe_slice sl_str (pv 1) po_none (po_some (pv 4)))) (pss_cons (ps_set (i := 1) sc__law_loose_chunks.nd rfl (Or.inl rfl) (pe_slice sl_str (pv 1) (po_some (pv 4)) po_none)) (pss_one (ps_if (pt_cmpR op_ne (pv 5) pe_str (nomark _)) (pss_one (ps_set (i := 2) sc__law_loose_chunks.nd rfl (Or.inl rfl) (pe_op op_add_str (pe_op op_add_str (pe_op op_add_str (pe_op op_add_str (pv 2) (pe_callTy call_str_int rfl T.str (by decide +kernel) (pa_cons (pe_callB call_len_str rfl T.len (by decide +kernel) (pa_cons (pv 5) pa_nil)) pa_nil))) pe_str) (pv 5)) pe_str))) pss_nil))))))) (pss_one (ps_ret (pe_op op_add_str (pv 2) pe_str)))), ?_⟩
    have e3 : (PySem.Str.ofString "\n").length = 1 := by decide +kernel
    have e4 : (PySem.Str.ofString "").length = 0 := by decide +kernel
    have e5 : (PySem.Str.ofString "0\n").length = 2 := by decide +kernel
    refine ⟨_, rfl, by decide, by decide, ?_⟩
    refine for_it (n := 5) (G := fun _ => True) walk_range (fun i σ H' => ∃ (bd : Tx) (tx : PySem.Str) (v3 v4 v5 : Option V), σ = [some (.ref a), some (.str (S bd)), some (.str tx), v3, v4, v5] ∧ Bg a H H' ∧ tx.length + bd.length ≤ 700 + 6 * i)
      ⟨bd0, _, _, _, _, rfl, Bg.refl hb, by rw [e4]; omega⟩ (fun _ _ _ _ _ => trivial) ?_ ?_
    · rintro i x σ H1 H2 hi ⟨bd, tx, v3, v4, v5, rfl, b1, hsz⟩ ⟨rfl, rfl⟩
      refine seq_mid (fun σ' H' => ∃ (k n : Int) (v5 : Option V), σ' = [some (.ref a), some (.str (S bd)), some (.str tx), some (.int k), some (.int n), v5] ∧ Bg a H H' ∧ 0 ≤ n) ?_ ?_
      rotate_left
      · intro nx hnx
        refine ⟨_, rfl, a, 5, rfl, b1.bag, by decide, fun H3 r b2 r0 r1 => ⟨_, _, rfl, rfl, ?_⟩⟩
        exact hnx _ _ ⟨_, _, _, rfl, b1.trans b2, by omega⟩
      rintro σ1 H3 ⟨k, n, v5, rfl, b2, hn0⟩
      refine seq_mid (fun σ' H' => ∃ (n : Nat) (v5 : Option V), σ' = [some (.ref a), some (.str (S bd)), some (.str tx), some (.int k), some (.int (n : Nat)), v5] ∧ H' = H3) ?_ ?_
      rotate_left
      · intro nx hnx
        refine ⟨_, rfl, rfl, _, rfl, ?_⟩
        refine ite2 (fun h => ⟨_, rfl, _, rfl, by rw [S_len]; show _ ≤ 16777216; omega, ?_⟩) (fun h => ?_)
        · exact hnx _ _ ⟨(S bd).length, _, rfl, rfl⟩
        · obtain ⟨m, rfl⟩ := Int.eq_ofNat_of_zero_le hn0
          exact hnx _ _ ⟨m, _, rfl, rfl⟩
      rintro σ1 H3 ⟨n, v5, rfl, rfl⟩
      have hbl : (S bd).length ≤ sizeLine := by rw [S_len]; show _ ≤ 16777216; omega
      refine ⟨_, rfl, _, rfl, _, rfl, _, rfl, hbl, ?_⟩
      rw [cut_to]
      refine ⟨_, rfl, _, rfl, _, rfl, _, rfl, hbl, ?_⟩
      rw [cut_from]
      have hsum : (bd.take n).length + (bd.drop n).length = bd.length := by rw [← List.length_append, List.take_append_drop]
      refine ⟨_, rfl, rfl, _, rfl, ?_⟩
      rw [dec_emp]
      refine ite2 (fun h => ?_) (fun h => ?_)
      · have hz := len_ofInt (n := (bd.take n).length) (by omega)
        refine ⟨_, rfl, _, rfl, _, rfl, by rw [S_len]; show _ ≤ 16777216; omega, _, rfl, by rw [S_len]; exact log_small (by omega), ?_⟩
        rw [S_len]
        generalize (PySem.Str.ofString (toString (((bd.take n).length : Nat) : Int))) = tz at hz ⊢
        have e6 : (S (bd.take n)).length = (bd.take n).length := S_len _
        refine ⟨_, _, rfl, rfl, by show _ ≤ 16777216; omega, _, _, rfl, rfl, by rw [str_len_app, e3]; show _ ≤ 16777216; omega, _, rfl, _, _, rfl, rfl, by rw [str_len_app, str_len_app, e3, e6]; show _ ≤ 16777216; omega, _, _, rfl, rfl, by rw [str_len_app, str_len_app, str_len_app, e3, e6]; show _ ≤ 16777216; omega, ?_⟩
        refine ⟨bd.drop n, _, _, _, _, rfl, b2, ?_⟩
        rw [str_len_app, str_len_app, str_len_app, str_len_app, e3, e6]
        omega
      · exact ⟨_, _, _, _, _, rfl, b2, by omega⟩
    · rintro σ H1 ⟨bd, tx, v3, v4, v5, rfl, b1, hsz⟩
      refine ⟨_, rfl, _, _, rfl, rfl, by rw [e5]; show _ ≤ 16777216; omega, ?_⟩
      exact q _ _ b1 (by rw [str_len_app, e5]; omega)
end
end K6

set_option Elab.async false
set_option linter.all false
set_option maxRecDepth 100000
set_option maxHeartbeats 4000000
/-! KW15: a row written loosely, the stream. -/
namespace K6
open PySem PySem.Spec PyProof.Rows L2
theorem cutV_mem {xs : List V} {lo hi : Option Int} {x : V} (h : x ∈ cutV xs lo hi) : x ∈ xs := List.mem_of_mem_drop (List.mem_of_mem_take h)
theorem cutV_len {xs : List V} {lo hi : Option Int} : (cutV xs lo hi).length ≤ xs.length := by
  unfold cutV
  rw [List.length_take, List.length_drop]
  omega
theorem Bg.put {a l : Addr} {H H1 : Hp} {o : HO} (h : Bg a H H1) (hl : H l = none) (hb : BagAt H a) : Bg a H (upd H1 l o) := by
  have hne := hb.ne hl
  refine ⟨fun c x e hc => ?_, ?_⟩
  · rw [upd_ne (ne_of_none e hl)]
    exact h.1 c x e hc
  · obtain ⟨d, k, y, h1, h2⟩ := h.2
    exact ⟨d, k, y, by rw [upd_ne hne.symm]; exact h1, h2⟩
theorem jn {acc : List V} {H : Hp} {m k n : Nat} (h : ∀ x ∈ acc, StrLe m H x) (hl : acc.length ≤ k) (hn : m * k ≤ n) : ∃ ys : List PySem.Str, acc = ys.map V.str ∧ (ys.map (·.length)).sum ≤ n ∧ (Txt.join (PySem.Str.ofString "") ys).length ≤ n := by
  obtain ⟨ys, h1, h2, h3⟩ := texts_of m acc h
  have := Nat.mul_le_mul_left m hl
  exact ⟨ys, h1, by omega, by rw [join_emp]; omega⟩
section
variable {P : Program} {w : World} {K : PySem.W.Frag} {mg : PySem.Str → Option Value} {base : Heap}
def sp__law_loose : Sp := fun vs H Q _ => ∃ (a : Addr) (x : V) (last : Bool), vs = [.ref a, x, .bl last] ∧ BagAt H a ∧ RowW (fun z => z ≠ a) H x ∧ ∀ H' (z : PySem.Str), Bg a H H' → z.length ≤ 30000 → Q (.str z) H'
theorem ok__law_loose (T : Txt K mg) : Ok P w K mg base CX0 "_law_loose" 3 ["_law_bag_here", "_law_row_here", "_law_last"] sp__law_loose := by
  obtain ⟨f, fd, hm, F⟩ := T._law_loose
  refine ⟨f, fd, hm, F.kp, F.binds fun _ _ _ _ _ _ us hl => match us, hl with | [_, _, _], _ => rfl, F.ok sc__law_loose (fun vs H Q E h => ?_) (fun cdv A outer s H vs Q E hr h => ?_)⟩
  · obtain ⟨a, x, last, rfl, _⟩ := h
    rfl
  · obtain ⟨a, x, last, rfl, hb, ⟨p, fa, st, bd, xs, rfl, hp, hfa, hxs, hlen, hpair, hst, hbd⟩, q⟩ := h
    refine ⟨_, pss_cons (ps_set (i := 3) sc__law_loose.nd rfl (Or.inl rfl) (pe_ix ix_tup (pv 1) pe_int (fun _ _ => rfl))) (pss_cons (ps_set (i := 4) sc__law_loose.nd rfl (Or.inl rfl) (pe_lst (pa_cons pe_str (pa_cons pe_str pa_nil)))) (pss_cons (ps_if (pt_not (pt_val (pe_callO (ok__law_may T) hr rfl (pa_cons (pv 3) pa_nil)))) (pss_one (ps_set (i := 4) sc__law_loose.nd rfl (Or.inl rfl) (pe_lst (pa_cons pe_str (pa_cons pe_str pa_nil))))) (pss_one (ps_if (PW.pt (pw_and (pt_val (pe_bm PySem.F.plainAttrs_str PySem.F.slot_str_startswith PySem.F.type_str_startswith mt_startswith (pv 3) (pa_cons pe_str pa_nil))) (pw_and1 (pt_cmpR op_eq (pe_ix ix_tup (pv 1) pe_int (fun _ _ => rfl)) pe_str (nomark _))))) (pss_one (ps_expr (pe_bm PySem.F.plainAttrs_list PySem.F.slot_list_append PySem.F.type_list_append mt_append (pv 4) (pa_cons pe_str pa_nil)))) (pss_one (ps_if (PW.pt (pw_and (pt_val (pe_bm PySem.F.plainAttrs_str PySem.F.slot_str_startswith PySem.F.type_str_startswith mt_startswith (pv 3) (pa_cons pe_str pa_nil))) (pw_and1 (pt_val (pv 2))))) (pss_one (ps_expr (pe_bm PySem.F.plainAttrs_list PySem.F.slot_list_append PySem.F.type_list_append mt_append (pv 4) (pa_cons pe_str pa_nil)))) pss_nil))))) (pss_cons (ps_set (i := 5) sc__law_loose.nd rfl (Or.inl rfl) (pe_callO (ok__law_pick T) hr rfl (pa_cons (pv 0) (pa_cons (pv 4) pa_nil)))) (pss_cons (ps_setLc (i := 6) (own := [("_law_field", 9)]) (g := gName 9) (tt := tYes) rfl sc__law_loose.nd rfl rfl (sw_true rfl rfl rfl (by decide +kernel)) (pi_list (pe_ix ix_tup (pv 1) pe_int (fun _ _ => rfl))) (blkOk_by (N := ["_law_bag_here", "_law_row_here", "_law_last", "_law_start", "_law_ways", "_law_way", "_law_lines_here", "_law_tail", "_law_text", "_law_field"]) (sc := defScope s__law_loose) (by decide +kernel)) (fun _ _ _ _ _ => pg_name (i := 9) sc__law_loose.nd rfl (Or.inl rfl)) (fun _ _ _ _ _ => pts_nil) (fun _ _ _ _ _ => (pe_callO (ok__law_loose_line T) hr rfl (pa_cons (pv 0) (pa_cons (pe_ix (show IxR _ (rIxT K) from ix_tup) (pv 9) pe_int (fun _ _ => rfl)) (pa_cons (pe_ix (show IxR _ (rIxT K) from ix_tup) (pv 9) pe_int (fun _ _ => rfl)) pa_nil)))))) (pss_cons (ps_set (i := 7) sc__law_loose.nd rfl (Or.inl rfl) pe_int) (pss_cons (ps_if (pt_cmpR op_eq (pv 5) pe_str (nomark _)) (pss_one (ps_set (i := 7) sc__law_loose.nd rfl (Or.inl rfl) (pe_callO (ok__law_draw T) hr rfl (pa_cons (pv 0) (pa_cons (pe_op op_add (pe_callB call_len_seq rfl T.len (by decide +kernel) (pa_cons (pv 6) pa_nil)) pe_int) pa_nil))))) pss_nil) (pss_cons (ps_set (i := 8) sc__law_loose.nd rfl (Or.inl rfl) (pe_op op_add_str (pe_op op_add_str (pe_op op_add_str (pe_op op_mul_str pe_str (pe_callO (ok__law_draw T) hr rfl (pa_cons (pv 0) (pa_cons pe_int pa_nil)))) (pv 3)) pe_str) (pe_join pe_str (pe_slice sl_list (pv 6) po_none (po_some (pe_op op_sub (pe_callB call_len_seq rfl T.len (by decide +kernel) (pa_cons (pv 6) pa_nil)) (pv 7))))))) (pss_cons (ps_if (pt_cmpR op_eq (pv 5) pe_str (nomark _)) (pss_cons (ps_set (i := 8) sc__law_loose.nd rfl (Or.inl rfl) (pe_op op_add_str (pe_op op_add_str (pe_op op_add_str (pv 8) (pe_callO (ok__law_loose_line T) hr rfl (pa_cons (pv 0) (pa_cons pe_str (pa_cons pe_str pa_nil))))) pe_str) (pe_callO (ok__law_loose_chunks T) hr rfl (pa_cons (pv 0) (pa_cons (pe_ix ix_tup (pv 1) pe_int (fun _ _ => rfl)) pa_nil))))) (pss_one (ps_ret (pe_op op_add_str (pe_op op_add_str (pv 8) (pe_join pe_str (pe_slice sl_list (pv 6) (po_some (pe_op op_sub (pe_callB call_len_seq rfl T.len (by decide +kernel) (pa_cons (pv 6) pa_nil)) (pv 7))) po_none))) pe_str)))) pss_nil) (pss_cons (ps_if (pt_cmpR op_eq (pv 5) pe_str (nomark _)) (pss_one (ps_set (i := 8) sc__law_loose.nd rfl (Or.inl rfl) (pe_op op_add_str (pv 8) (pe_callO (ok__law_loose_line T) hr rfl (pa_cons (pv 0) (pa_cons pe_str (pa_cons (pe_callTy call_str_int rfl T.str (by decide +kernel) (pa_cons (pe_callB call_len_str rfl T.len (by decide +kernel) (pa_cons (pe_ix ix_tup (pv 1) pe_int (fun _ _ => rfl)) pa_nil)) pa_nil)) pa_nil))))))) pss_nil) (pss_cons (ps_if (pt_cmpR op_eq (pv 5) pe_str (nomark _)) (pss_one (ps_set (i := 8) sc__law_loose.nd rfl (Or.inl rfl) (pe_op op_add_str (pv 8) (pe_callO (ok__law_loose_line T) hr rfl (pa_cons (pv 0) (pa_cons pe_str (pa_cons pe_str pa_nil))))))) pss_nil) (pss_one (ps_ret (pe_op op_add_str (pe_op op_add_str (pv 8) pe_str) (pe_ix ix_tup (pv 1) pe_int (fun _ _ => rfl))))))))))))))), ?_⟩
    have e3 : (PySem.Str.ofString "\n").length = 1 := by decide +kernel
    have e4 : (PySem.Str.ofString "").length = 0 := by decide +kernel
    have tp : ∀ {H'}, Bg a H H' → H' p = some (.tup [.str st, .ref fa, .str bd]) := fun b => b.tup hb _ _ hp
    refine seq_mid (fun σ' H' => σ' = [some (.ref a), some (.ref p), some (.bl last), some (.str st), none, none, none, none, none, none] ∧ H' = H) ?_ (fun nx hnx => ⟨_, rfl, p, _, _, _, rfl, rfl, SqT.of hp, atI_nat (j := 0) rfl, hnx _ _ ⟨rfl, rfl⟩⟩)
    rintro σ1 H1 ⟨rfl, rfl⟩
    refine seq_mid (fun σ' H' => ∃ l, σ' = [some (.ref a), some (.ref p), some (.bl last), some (.str st), some (.ref l), none, none, none, none, none] ∧ Bg a H1 H' ∧ H1 l = none ∧ H' l = some (.lst [str "counted", str "chunks"])) ?_ (fun nx hnx => ⟨by show 2 ≤ sizeLine; decide, fun l hl => hnx _ _ ⟨l, rfl, Bg.of_same hb (same_new hl), hl, upd_same⟩⟩)
    rintro σ1 H0 ⟨l, rfl, b0, hl, l0⟩
    refine seq_mid (fun σ' H' => ∃ (l : Addr) (acc : List V), σ' = [some (.ref a), some (.ref p), some (.bl last), some (.str st), some (.ref l), none, none, none, none, none] ∧ Bg a H1 H' ∧ H' l = some (.lst acc) ∧ l ≠ a ∧ 1 ≤ acc.length ∧ acc.length ≤ 3 ∧ ∀ x ∈ acc, StrLe 7 H' x) ?_ ?_
    rotate_left
    · intro nx hnx
      have three : ∀ (s : String), strsLe 7 [str "counted", str "chunks", str s] = true → nx [some (.ref a), some (.ref p), some (.bl last), some (.str st), some (.ref l), none, none, none, none, none] (upd H0 l (.lst [str "counted", str "chunks", str s])) := fun s hs =>
        hnx _ _ ⟨l, _, rfl, b0.put hl hb, upd_same, hb.ne hl, by show 1 ≤ 3; decide, by show 3 ≤ 3; decide, fun x hx => in_strs hs hx⟩
      have two : nx [some (.ref a), some (.ref p), some (.bl last), some (.str st), some (.ref l), none, none, none, none, none] H0 :=
        hnx _ _ ⟨l, _, rfl, b0, l0, hb.ne hl, by show 1 ≤ 2; decide, by show 2 ≤ 3; decide, fun x hx => in_strs (m := 7) (by decide +kernel) hx⟩
      refine ⟨_, rfl, TL.tl st, by rw [S_tl]; rfl, _, rfl, ?_⟩
      refine ite2 (fun h1 => ?_) (fun h1 => ?_)
      · refine ⟨by show 2 ≤ sizeLine; decide, fun m hm => ?_⟩
        exact hnx _ _ ⟨m, _, rfl, b0.same (same_new hm), upd_same, (b0.bag.ne hm), by show 1 ≤ 2; decide, by show 2 ≤ 3; decide, fun x hx => in_strs (m := 7) (by decide +kernel) hx⟩
      · refine ⟨_, rfl, rfl, _, _, rfl, rfl, _, rfl, ?_⟩
        refine ite2 (fun h2 => ⟨_, rfl, p, _, _, _, rfl, rfl, SqT.of (tp b0), atI_nat (j := 2) rfl, rfl, _, rfl, ?_⟩) (fun h2 => ?_)
        · refine ite2 (fun h3 => ⟨_, rfl, .inl ⟨rfl, _, SqL.of l0⟩, l, _, _, rfl, rfl, l0, by show 2 < sizeLine; decide, three "none" (by decide +kernel)⟩) (fun h3 => ?_)
          refine ⟨_, rfl, rfl, _, _, rfl, rfl, _, rfl, ite2 (fun h4 => ⟨_, rfl, _, rfl, ite2 (fun h5 => ?_) (fun h5 => two)⟩) (fun h4 => two)⟩
          exact ⟨_, rfl, .inl ⟨rfl, _, SqL.of l0⟩, l, _, _, rfl, rfl, l0, by show 2 < sizeLine; decide, three "open" (by decide +kernel)⟩
        · refine ⟨_, rfl, rfl, _, _, rfl, rfl, _, rfl, ite2 (fun h4 => ⟨_, rfl, _, rfl, ite2 (fun h5 => ?_) (fun h5 => two)⟩) (fun h4 => two)⟩
          exact ⟨_, rfl, .inl ⟨rfl, _, SqL.of l0⟩, l, _, _, rfl, rfl, l0, by show 2 < sizeLine; decide, three "open" (by decide +kernel)⟩
    rintro σ1 H2 ⟨l2, acc, rfl, b2, hl2, hla, hn1, hn2, hacc⟩
    refine seq_mid (fun σ' H' => ∃ z : PySem.Str, σ' = [some (.ref a), some (.ref p), some (.bl last), some (.str st), some (.ref l2), some (.str z), none, none, none, none] ∧ Bg a H1 H') ?_ ?_
    rotate_left
    · intro nx hnx
      refine ⟨_, rfl, _, rfl, .inl ⟨a, l2, acc, rfl, b2.bag, hl2, hla, hn1, by omega, fun H3 x b3 hx => ?_⟩⟩
      obtain ⟨z, rfl, _⟩ := hacc x hx
      exact hnx _ _ ⟨z, rfl, b2.trans b3⟩
    rintro σ1 H3 ⟨way, rfl, b3⟩
    have fat : ∀ {H'}, Bg a H1 H' → H' fa = some (.lst xs) := fun b => b.1 _ _ hxs hfa
    refine seq_mid (fun σ' H' => ∃ (D : Addr) (acc : List V) (v9 : Option V), σ' = [some (.ref a), some (.ref p), some (.bl last), some (.str st), some (.ref l2), some (.str way), some (.ref D), none, none, v9] ∧ Bg a H1 H' ∧ H' D = some (.lst acc) ∧ D ≠ a ∧ acc.length ≤ 40 ∧ ∀ x ∈ acc, StrLe 300 H' x) ?_ ?_
    rotate_left
    · intro nx hnx
      refine ⟨_, rfl, p, _, _, _, rfl, rfl, SqT.of (tp b3), atI_nat (j := 1) rfl, fa, rfl, ⟨xs, SqL.of (fat b3)⟩, fun D hD => ?_⟩
      have hDa : D ≠ a := b3.bag.ne hD
      refine lc_bag (n := xs.length) (G := fun H => SqL K H fa xs) walk_list (a := a) (StrLe 300) (fun _ _ _ _ h => h) hD b3.bag (by omega) (fun H4 k => SqL.of (k _ _ (fat b3) hfa)) ?_ ?_
      · rintro j x H4 H5 hj b4 ⟨rfl, hx⟩
        refine ⟨rfl, fun Q' k => ?_⟩
        obtain ⟨pp', s, t, rfl, h1, h2, h3⟩ := hpair x (List.mem_of_getElem? hx)
        have h1' := (b3.trans b4).tup hb _ _ h1
        refine ⟨_, rfl, _, rfl, pp', _, _, _, rfl, rfl, SqT.of h1', atI_nat (j := 0) rfl, _, rfl, pp', _, _, _, rfl, rfl, SqT.of h1', atI_nat (j := 1) rfl, a, s, t, rfl, b4.bag, h2, h3, fun H6 z b6 hz => ?_⟩
        exact k _ _ b6 ⟨z, rfl, hz⟩
      · intro H4 acc b4 hD4 hlen' hacc4
        exact hnx _ _ ⟨D, acc, _, rfl, b3.trans b4, hD4, hDa, by omega, hacc4⟩
    rintro σ1 H4 ⟨D, acc, v9, rfl, b4, hD4, hDa, hlen4, hacc4⟩
    have Dt : ∀ {H'}, Bg a H4 H' → H' D = some (.lst acc) := fun b => b.1 _ _ hD4 hDa
    refine seq_mid (fun σ' H' => σ' = [some (.ref a), some (.ref p), some (.bl last), some (.str st), some (.ref l2), some (.str way), some (.ref D), some (.int 0), none, v9] ∧ H' = H4) ?_ (fun nx hnx => hnx _ _ ⟨rfl, rfl⟩)
    rintro σ1 H4 ⟨rfl, rfl⟩
    refine seq_mid (fun σ' H' => ∃ k : Int, σ' = [some (.ref a), some (.ref p), some (.bl last), some (.str st), some (.ref l2), some (.str way), some (.ref D), some (.int k), none, v9] ∧ Bg a H4 H') ?_ ?_
    rotate_left
    · intro nx hnx
      refine ⟨_, rfl, rfl, _, rfl, ?_⟩
      refine ite2 (fun h => ?_) (fun h => hnx _ _ ⟨0, rfl, Bg.refl b4.bag⟩)
      refine ⟨_, rfl, _, rfl, D, acc, rfl, .inl (SqL.of hD4), _, _, rfl, rfl, a, _, rfl, b4.bag, by omega, fun H5 r b5 r0 r1 => ?_⟩
      exact hnx _ _ ⟨r, rfl, b5⟩
    rintro σ1 H5 ⟨tl, rfl, b5⟩
    refine seq_mid (fun σ' H' => ∃ z : PySem.Str, σ' = [some (.ref a), some (.ref p), some (.bl last), some (.str st), some (.ref l2), some (.str way), some (.ref D), some (.int tl), some (.str z), v9] ∧ Bg a H4 H' ∧ z.length ≤ 12200) ?_ ?_
    rotate_left
    · intro nx hnx
      refine ⟨_, rfl, a, 3, rfl, b5.bag, by decide, fun H6 r b6 r0 r1 => ⟨_, _, rfl, rfl, by omega, by omega, by rw [e3]; decide, fun z1 hz1 => ?_⟩⟩
      rw [e3, Nat.one_mul] at hz1
      have b6 := b5.trans b6
      refine ⟨_, rfl, _, _, rfl, rfl, by show _ ≤ 16777216; omega, _, _, rfl, rfl, by rw [str_len_app, e3]; show _ ≤ 16777216; omega, ⟨_, rfl⟩, _, rfl, _, rfl, D, acc, rfl, .inl (SqL.of (Dt b6)), _, rfl, _, _, rfl, rfl, _, rfl, D, acc, rfl, SqL.of (Dt b6), fun m hm => ?_⟩
      have s7 := same_new (o := .lst (cutV acc none (some (((acc.length : Nat) : Int) - tl)))) hm
      obtain ⟨ys, hy1, hy2, hy3⟩ := jn (acc := cutV acc none (some (((acc.length : Nat) : Int) - tl))) (H := H6) (m := 300) (k := 40) (n := 12000) (fun x hx => hacc4 x (cutV_mem hx)) (Nat.le_trans cutV_len hlen4) (by decide)
      refine ⟨_, m, ys, rfl, rfl, .inl (SqL.of (by rw [← hy1]; exact upd_same)), by rw [e4]; omega, _, _, rfl, rfl, by rw [str_len_app, str_len_app, e3]; show _ ≤ 16777216; omega, ?_⟩
      exact hnx _ _ ⟨_, rfl, b6.same s7, by rw [str_len_app, str_len_app, str_len_app, e3]; omega⟩
    rintro σ1 H6 ⟨z, rfl, b6, hz⟩
    have el : (PySem.Str.ofString "length").length = 6 := by decide +kernel
    have ec : (PySem.Str.ofString "chunks").length = 6 := by decide +kernel
    have e0 : (PySem.Str.ofString "0").length = 1 := by decide +kernel
    refine seq_mid (fun σ' H' => σ' = [some (.ref a), some (.ref p), some (.bl last), some (.str st), some (.ref l2), some (.str way), some (.ref D), some (.int tl), some (.str z), v9] ∧ H' = H6) ?_ ?_
    rotate_left
    · intro nx hnx
      refine ⟨_, rfl, rfl, _, rfl, ?_⟩
      refine ite2 (fun h => ?_) (fun h => hnx _ _ ⟨rfl, rfl⟩)
      refine ⟨_, rfl, _, rfl, a, _, _, rfl, b6.bag, by rw [el]; decide, by rw [ec]; decide, fun H7 z7 b7 hz7 => ?_⟩
      refine ⟨_, _, rfl, rfl, by show _ ≤ 16777216; omega, _, _, rfl, rfl, by rw [str_len_app, e3]; show _ ≤ 16777216; omega, _, rfl, _, rfl, p, _, _, _, rfl, rfl, SqT.of (tp ((b4.trans b6).trans b7)), atI_nat (j := 2) rfl, a, TL.tl bd, by rw [S_tl]; rfl, b7.bag, hbd, fun H8 z8 b8 hz8 => ?_⟩
      refine ⟨_, _, rfl, rfl, by rw [str_len_app, str_len_app, e3]; show _ ≤ 16777216; omega, ?_⟩
      have b8 := (b6.trans b7).trans b8
      refine ⟨_, rfl, ⟨_, rfl⟩, _, rfl, _, rfl, D, acc, rfl, .inl (SqL.of (Dt b8)), _, rfl, _, _, rfl, rfl, _, rfl, D, acc, rfl, SqL.of (Dt b8), fun m hm => ?_⟩
      have s7 := same_new (o := .lst (cutV acc (some (((acc.length : Nat) : Int) - tl)) none)) hm
      obtain ⟨ys, hy1, hy2, hy3⟩ := jn (acc := cutV acc (some (((acc.length : Nat) : Int) - tl)) none) (H := H6) (m := 300) (k := 40) (n := 12000) (fun x hx => hacc4 x (cutV_mem hx)) (Nat.le_trans cutV_len hlen4) (by decide)
      refine ⟨_, m, ys, rfl, rfl, .inl (SqL.of (by rw [← hy1]; exact upd_same)), by rw [e4]; omega, _, _, rfl, rfl, by rw [str_len_app, str_len_app, str_len_app, e3]; show _ ≤ 16777216; omega, _, _, rfl, rfl, by rw [str_len_app, str_len_app, str_len_app, str_len_app, e3]; show _ ≤ 16777216; omega, ?_⟩
      exact q _ _ ((b4.trans b8).same s7) (by rw [str_len_app, str_len_app, str_len_app, str_len_app, str_len_app, e3]; omega)
    rintro σ1 H7 ⟨rfl, rfl⟩
    refine seq_mid (fun σ' H' => ∃ z : PySem.Str, σ' = [some (.ref a), some (.ref p), some (.bl last), some (.str st), some (.ref l2), some (.str way), some (.ref D), some (.int tl), some (.str z), v9] ∧ Bg a H4 H' ∧ z.length ≤ 12500) ?_ ?_
    rotate_left
    · intro nx hnx
      refine ⟨_, rfl, rfl, _, rfl, ?_⟩
      refine ite2 (fun h => ?_) (fun h => hnx _ _ ⟨_, rfl, b6, by omega⟩)
      refine ⟨_, rfl, _, rfl, _, rfl, p, _, _, _, rfl, rfl, SqT.of (tp (b4.trans b6)), atI_nat (j := 2) rfl, _, rfl, Nat.le_trans hbd (by decide), _, rfl, log_small (by omega), a, _, _, rfl, b6.bag, by rw [el]; decide, Nat.le_trans (len_ofInt (by omega)) (by decide), fun H8 z8 b8 hz8 => ?_⟩
      refine ⟨_, _, rfl, rfl, by show _ ≤ 16777216; omega, ?_⟩
      exact hnx _ _ ⟨_, rfl, b6.trans b8, by rw [str_len_app]; omega⟩
    rintro σ1 H8 ⟨z8, rfl, b8, hz8⟩
    refine seq_mid (fun σ' H' => ∃ z : PySem.Str, σ' = [some (.ref a), some (.ref p), some (.bl last), some (.str st), some (.ref l2), some (.str way), some (.ref D), some (.int tl), some (.str z), v9] ∧ Bg a H4 H' ∧ z.length ≤ 12800) ?_ ?_
    rotate_left
    · intro nx hnx
      refine ⟨_, rfl, rfl, _, rfl, ?_⟩
      refine ite2 (fun h => ?_) (fun h => hnx _ _ ⟨_, rfl, b8, by omega⟩)
      refine ⟨_, rfl, _, rfl, a, _, _, rfl, b8.bag, by rw [el]; decide, by rw [e0]; decide, fun H9 z9 b9 hz9 => ?_⟩
      refine ⟨_, _, rfl, rfl, by show _ ≤ 16777216; omega, ?_⟩
      exact hnx _ _ ⟨_, rfl, b8.trans b9, by rw [str_len_app]; omega⟩
    rintro σ1 H9 ⟨z9, rfl, b9, hz9⟩
    refine ⟨_, rfl, _, _, rfl, rfl, by rw [e3]; show _ ≤ 16777216; omega, _, rfl, p, _, _, _, rfl, rfl, SqT.of (tp (b4.trans b9)), atI_nat (j := 2) rfl, _, _, rfl, rfl, by rw [str_len_app, e3]; show _ ≤ 16777216; omega, ?_⟩
    exact q _ _ (b4.trans b9) (by rw [str_len_app, str_len_app, e3]; omega)
end
end K6

set_option Elab.async false
set_option linter.all false
set_option maxRecDepth 100000
set_option maxHeartbeats 4000000
/-! KW16: the stream, its spoiling, its cutting. -/
namespace K6
open PySem PySem.Spec PyProof.Rows L2
theorem RowW.weak {N N' : Addr → Prop} {H : Hp} {x : V} (h : RowW N H x) (k : ∀ z, N z → N' z) : RowW N' H x := by
  obtain ⟨p, fa, st, bd, xs, e, h1, h2, h3⟩ := h
  exact ⟨p, fa, st, bd, xs, e, h1, k _ h2, h3⟩
theorem RowW.put {N : Addr → Prop} {H : Hp} {x : V} {l : Addr} {ys zs : List V} (h : RowW N H x) (hl : H l = some (.lst ys)) (hn : ¬ N l) : RowW N (upd H l (.lst zs)) x := by
  obtain ⟨p, fa, st, bd, xs, e, h1, h2, h3, h4, h5, h6⟩ := h
  refine ⟨p, fa, st, bd, xs, e, put_tup hl _ _ h1, h2, ?_, h4, fun y hy => ?_, h6⟩
  · rw [upd_ne (fun z => hn (by rw [← z]; exact h2))]
    exact h3
  · obtain ⟨p, s, t, e, h, r⟩ := h5 y hy
    exact ⟨p, s, t, e, put_tup hl _ _ h, r⟩
section
variable {P : Program} {w : World} {K : PySem.W.Frag} {mg : PySem.Str → Option Value} {base : Heap}
theorem Bg.keeps {a : Addr} {H0 H H' : Hp} (h : Bg a H H') (s : Same H0 H) (n : H0 a = none) : Same H0 H' := fun c x e => h.1 _ _ (s _ _ e) fun z => by rw [z, n] at e; cases e
def sp__law_stream : Sp := fun vs H Q _ => ∃ (H0 : Hp) (s a : Addr) (b : Bool) (ns : List Int), vs = [.ref s, .ref a, sideV b] ∧ Same H0 H ∧ SqL K H0 s (ns.map V.int) ∧ H0 a = none ∧ BagAt H a ∧ ns.length ≤ 1000 ∧
  ∀ H' r x (z : Tx), Bg a H H' → H' r = some (.lst [x, .str (S z)]) → z.length ≤ 400000 → Q (.ref r) H'
theorem ok__law_stream (T : Txt K mg) : Ok P w K mg base CX0 "_law_stream" 5 ["_law_script", "_law_bag_here", "_law_side"] (sp__law_stream (K := K)) := by
  obtain ⟨f, fd, hm, F⟩ := T._law_stream
  refine ⟨f, fd, hm, F.kp, F.binds fun _ _ _ _ _ _ us hl => match us, hl with | [_, _, _], _ => rfl, F.ok sc__law_stream (fun vs H Q E h => ?_) (fun cdv A outer s H vs Q E hr h => ?_)⟩
  · obtain ⟨H0, s, a, b, ns, rfl, _⟩ := h
    rfl
  · obtain ⟨H0, s, a, b, ns, rfl, s0, hS, na, hb, hns, q⟩ := h
    refine ⟨_, pss_cons (ps_set (i := 3) sc__law_stream.nd rfl (Or.inl rfl) (pe_callO (ok__law_names T) hr rfl (pa_cons (pv 1) pa_nil))) (pss_cons (ps_set (i := 4) sc__law_stream.nd rfl (Or.inl rfl) (pe_callO (ok__law_pick T) hr rfl (pa_cons (pv 1) (pa_cons (pe_lst (pa_cons pe_int (pa_cons pe_int (pa_cons pe_int (pa_cons pe_int (pa_cons pe_int pa_nil)))))) pa_nil)))) (pss_cons (ps_if (pt_cmpR op_eq (pe_callO (ok__law_draw T) hr rfl (pa_cons (pv 1) (pa_cons pe_int pa_nil))) pe_int (nomark _)) (pss_one (ps_set (i := 4) sc__law_stream.nd rfl (Or.inl rfl) (pe_callB (call_min2 rfl) rfl T.min (by decide +kernel) (pa_cons pe_int (pa_cons (pe_callB call_len_seq rfl T.len (by decide +kernel) (pa_cons (pv 0) pa_nil)) pa_nil))))) pss_nil) (pss_cons (ps_set (i := 5) sc__law_stream.nd rfl (Or.inl rfl) (pe_lst pa_nil)) (pss_cons (ps_set (i := 6) sc__law_stream.nd rfl (Or.inl rfl) pe_str) (pss_cons (ps_for PassesOwn.never rfl (pi_range1 rfl T.range (pa_cons (pv 4) pa_nil)) (pg_name (i := 7) sc__law_stream.nd rfl (Or.inl rfl)) (pss_cons (ps_set (i := 8) sc__law_stream.nd rfl (Or.inl rfl) (pe_callO (ok__law_bag T) hr rfl (pa_cons (pv 0) (pa_cons (pe_op op_add (pv 7) pe_int) pa_nil)))) (pss_cons (ps_expr (pe_bm PySem.F.plainAttrs_list PySem.F.slot_list_append PySem.F.type_list_append mt_append (pv 5) (pa_cons (pe_callO (ok__law_row T) hr rfl (pa_cons (pv 8) (pa_cons (pv 2) (pa_cons (pv 3) pa_nil)))) pa_nil))) (pss_one (ps_set (i := 6) sc__law_stream.nd rfl (Or.inl rfl) (pe_op op_add_str (pv 6) (pe_callO (ok__law_loose T) hr rfl (pa_cons (pv 8) (pa_cons (pe_ix ix_list (pv 5) (pv 7) (fun _ _ => rfl)) (pa_cons (pe_cmpR op_eq (pv 7) (pe_op op_sub (pv 4) pe_int) (nomark _)) pa_nil)))))))))) (pss_one (ps_ret (pe_lst (pa_cons (pv 5) (pa_cons (pv 6) pa_nil)))))))))), ?_⟩
    refine seq_mid (fun σ' H' => ∃ (l : Addr) (acc : List V), σ' = [some (.ref s), some (.ref a), some (sideV b), some (.ref l), none, none, none, none, none] ∧ Bg a H H' ∧ l ≠ a ∧ H' l = some (.lst acc) ∧ 1 ≤ acc.length ∧ acc.length ≤ 3 ∧ ∀ x ∈ acc, StrLe 30 H' x) ?_ ?_
    rotate_left
    · intro nx hnx
      refine ⟨_, rfl, a, rfl, hb, fun H1 l acc b1 hl h1 h2 h3 h4 => ?_⟩
      exact hnx _ _ ⟨l, acc, rfl, b1, hb.ne hl, h1, h2, h3, h4⟩
    rintro σ1 H1 ⟨l, acc, rfl, b1, hla, hl, hn1, hn2, hacc⟩
    refine seq_mid (fun σ' H' => ∃ n : Int, σ' = [some (.ref s), some (.ref a), some (sideV b), some (.ref l), some (.int n), none, none, none, none] ∧ Bg a H1 H' ∧ 0 ≤ n ∧ n ≤ 12) ?_ ?_
    rotate_left
    · intro nx hnx
      refine ⟨_, rfl, by show 5 ≤ sizeLine; decide, fun l1 hl1 => ?_⟩
      refine .inl ⟨a, l1, _, rfl, b1.bag.same (same_new hl1), upd_same, b1.bag.ne hl1, by show 1 ≤ 5; decide, by show 5 ≤ 4000000; decide, fun H2 x b2 hx => ?_⟩
      obtain ⟨n, rfl, n0, n1⟩ := in_ints (m := 4) (by decide +kernel) hx
      exact hnx _ _ ⟨n, rfl, (Bg.of_same b1.bag (same_new hl1)).trans b2, n0, by omega⟩
    rintro σ1 H2 ⟨n, rfl, b2, n0, n1⟩
    refine seq_mid (fun σ' H' => ∃ n : Int, σ' = [some (.ref s), some (.ref a), some (sideV b), some (.ref l), some (.int n), none, none, none, none] ∧ Bg a H1 H' ∧ 0 ≤ n ∧ n ≤ 12) ?_ ?_
    rotate_left
    · intro nx hnx
      refine ⟨_, rfl, a, 8, rfl, b2.bag, by decide, fun H3 r b3 r0 r1 => ⟨rfl, _, rfl, ?_⟩⟩
      have b3 := b2.trans b3
      refine ite2 (fun h => ?_) (fun h => hnx _ _ ⟨n, rfl, b3, n0, n1⟩)
      refine ⟨_, rfl, s, _, rfl, .inl ((b1.trans b3).keeps s0 na |>.seq hS), _, _, rfl, ?_⟩
      refine hnx _ _ ⟨_, rfl, b3, ?_, ?_⟩
      · split <;> omega
      · split <;> omega
    rintro σ1 H3 ⟨n, rfl, b3, n0, n1⟩
    have bb := b1.trans b3
    have sS := bb.keeps s0 na
    have hl3 := b3.1 _ _ hl hla
    refine seq_mid (fun σ' H' => ∃ pr, σ' = [some (.ref s), some (.ref a), some (sideV b), some (.ref l), some (.int n), some (.ref pr), none, none, none] ∧ H3 pr = none ∧ H' = upd H3 pr (.lst [])) ?_ (fun nx hnx => ⟨by show 0 ≤ sizeLine; decide, fun pr hpr => hnx _ _ ⟨pr, rfl, hpr, rfl⟩⟩)
    rintro σ1 H4 ⟨pr, rfl, hpr, rfl⟩
    refine seq_mid (fun σ' H' => σ' = [some (.ref s), some (.ref a), some (sideV b), some (.ref l), some (.int n), some (.ref pr), some (str ""), none, none] ∧ H' = upd H3 pr (.lst [])) ?_ (fun nx hnx => hnx _ _ ⟨rfl, rfl⟩)
    rintro σ1 H4 ⟨rfl, rfl⟩
    refine seq_mid (fun σ' H' => ∃ (z : PySem.Str) (xs : List V) (v7 v8 : Option V), σ' = [some (.ref s), some (.ref a), some (sideV b), some (.ref l), some (.int n), some (.ref pr), some (.str z), v7, v8] ∧ Same H3 H' ∧ H' pr = some (.lst xs) ∧ z.length ≤ 360000) ?_ ?_
    · rintro σ1 H5 ⟨z, xs, v7, v8, rfl, s5, h5, hz⟩
      refine ⟨_, rfl, _, rfl, by show 2 ≤ sizeLine; decide, fun r hr => ?_⟩
      refine q _ r _ (TL.tl z) ((bb.same s5).same (same_new hr)) (by rw [S_tl]; exact upd_same) ?_
      exact Nat.le_trans hz (by decide)
    · intro nx hnx
      refine ⟨_, rfl, n, rfl, by omega, by omega, ?_⟩
      refine for_it (n := n.toNat) (G := fun _ => True) walk_range (fun i σ H' => ∃ (z : PySem.Str) (xs : List V) (v7 v8 : Option V), σ = [some (.ref s), some (.ref a), some (sideV b), some (.ref l), some (.int n), some (.ref pr), some (.str z), v7, v8] ∧ Same H3 H' ∧ H' pr = some (.lst xs) ∧ xs.length = i ∧ z.length ≤ 30000 * i)
        ⟨_, [], _, _, rfl, same_new hpr, upd_same, rfl, by decide +kernel⟩ (fun _ _ _ _ _ => trivial) ?_ ?_
      · rintro i x σ H5 H6 hi ⟨z, xs, v7, v8, rfl, s5, h5, hxl, hz⟩ ⟨rfl, rfl⟩
        refine ⟨_, rfl, _, rfl, _, _, rfl, rfl, s, ns, _, rfl, (sS.trans s5).seq hS, by omega, by omega, fun H7 one s7 n7 hone => ?_⟩
        have hpr7 := s7 _ _ h5
        have hpo : pr ≠ one := fun z => by rw [z, n7] at h5; cases h5
        have hlo : l ≠ one := fun z => by have := s5 _ _ hl3; rw [z, n7] at this; cases this
        refine ⟨_, rfl, .inl ⟨rfl, _, SqL.of hpr7⟩, _, rfl, _, rfl, _, rfl, one, l, b, acc, rfl, hone, s7 _ _ (s5 _ _ hl3), hlo, hn1, hn2, hacc, fun H8 x b8 hx => ?_⟩
        have hpr8 := b8.1 _ _ hpr7 hpo
        refine ⟨pr, xs, x, rfl, rfl, hpr8, by rw [hxl]; show i < 16777216; omega, ?_⟩
        have hx' := (hx.put (zs := xs ++ [x]) hpr8 (by rw [hpr7]; simp)).weak (N' := fun z => z ≠ one) fun z hz e => hone.has (e ▸ hz)
        have hb9 : BagAt (upd H8 pr (.lst (xs ++ [x]))) one := by
          obtain ⟨d, k, y, g1, g2⟩ := b8.bag
          exact ⟨d, k, y, by rw [upd_ne hpo.symm]; exact g1, g2⟩
        have hat : atI (xs ++ [x]) (0 + (i : Nat)) = some x := by
          rw [Int.zero_add]
          refine atI_nat ?_
          rw [← hxl]
          simp
        refine ⟨_, rfl, _, rfl, _, rfl, _, rfl, pr, _, _, _, rfl, rfl, SqL.of upd_same, hat, _, rfl, _, rfl, _, _, rfl, rfl, rfl, one, x, _, rfl, hb9, hx', fun H9 z9 b9 hz9 => ?_⟩
        refine ⟨_, _, rfl, rfl, by show _ ≤ 16777216; omega, ?_⟩
        refine ⟨_, xs ++ [x], _, _, rfl, fun c y e => ?_, b9.1 _ _ upd_same hpo, by rw [List.length_append, hxl]; rfl, by rw [str_len_app]; omega⟩
        have e5 := s7 _ _ (s5 _ _ e)
        have hco : c ≠ one := fun z => by have := s5 _ _ e; rw [z, n7] at this; cases this
        have hcp : c ≠ pr := fun z => by rw [z, hpr] at e; cases e
        refine b9.1 _ _ ?_ hco
        rw [upd_ne hcp]
        exact b8.1 _ _ e5 hco
      · rintro σ H5 ⟨z, xs, v7, v8, rfl, s5, h5, hxl, hz⟩
        exact hnx _ _ ⟨z, xs, _, _, rfl, s5, h5, by omega⟩
end
end K6

set_option Elab.async false
set_option linter.all false
set_option maxRecDepth 100000
set_option maxHeartbeats 4000000
/-! KW17: the lines that spoil, the cutting. -/
namespace K6
open PySem PySem.Spec PyProof.Rows L2
section
variable {P : Program} {w : World} {K : PySem.W.Frag} {mg : PySem.Str → Option Value} {base : Heap}
def sp__law_lines : Sp := fun vs H Q _ => vs = [] ∧ ∀ H' l acc, Same H H' → H l = none → H' l = some (.lst acc) → 1 ≤ acc.length → acc.length ≤ 100 → (∀ x ∈ acc, StrLe 400 H' x) → Q (.ref l) H'
theorem ok__law_lines (T : Txt K mg) : Ok P w K mg base CX0 "_law_lines" 1 [] sp__law_lines := by
  obtain ⟨f, fd, hm, F⟩ := T._law_lines
  refine ⟨f, fd, hm, F.kp, F.binds fun _ _ _ _ _ _ us hl => match us, hl with | [], _ => rfl, F.ok sc__law_lines (fun vs H Q E h => ?_) (fun cdv A outer s H vs Q E hr h => ?_)⟩
  · obtain ⟨rfl, _⟩ := h
    rfl
  · obtain ⟨rfl, q⟩ := h
    refine ⟨_, pss_cons (ps_set (i := 0) sc__law_lines.nd rfl (Or.inl rfl) (pe_lst (pa_cons pe_str (pa_cons pe_str (pa_cons pe_str (pa_cons pe_str (pa_cons pe_str (pa_cons pe_str pa_nil)))))))) (pss_cons (ps_set (i := 0) sc__law_lines.nd rfl (Or.inl rfl) (pe_op op_cat (pv 0) (pe_lst (pa_cons pe_str (pa_cons pe_str (pa_cons pe_str (pa_cons pe_str (pa_cons pe_str (pa_cons pe_str (pa_cons pe_str (pa_cons pe_str pa_nil))))))))))) (pss_cons (ps_set (i := 0) sc__law_lines.nd rfl (Or.inl rfl) (pe_op op_cat (pv 0) (pe_lst (pa_cons pe_str (pa_cons pe_str (pa_cons pe_str (pa_cons pe_str (pa_cons pe_str (pa_cons pe_str (pa_cons pe_str pa_nil)))))))))) (pss_cons (ps_set (i := 0) sc__law_lines.nd rfl (Or.inl rfl) (pe_op op_cat (pv 0) (pe_lst (pa_cons pe_str (pa_cons pe_str (pa_cons pe_str (pa_cons pe_str (pa_cons pe_str (pa_cons pe_str pa_nil))))))))) (pss_cons (ps_set (i := 0) sc__law_lines.nd rfl (Or.inl rfl) (pe_op op_cat (pv 0) (pe_lst (pa_cons pe_str (pa_cons pe_str (pa_cons pe_str (pa_cons pe_str (pa_cons pe_str (pa_cons pe_str (pa_cons pe_str (pa_cons pe_str (pa_cons pe_str (pa_cons pe_str pa_nil))))))))))))) (pss_cons (ps_set (i := 0) sc__law_lines.nd rfl (Or.inl rfl) (pe_op op_cat (pv 0) (pe_lst (pa_cons (pe_op op_add_str (pe_op op_add_str pe_str (pe_op op_mul_str pe_str pe_int)) pe_str) (pa_cons (pe_op op_add_str (pe_op op_add_str pe_str (pe_op op_mul_str pe_str pe_int)) pe_str) (pa_cons (pe_op op_add_str (pe_op op_add_str pe_str (pe_op op_mul_str pe_str pe_int)) pe_str) (pa_cons (pe_op op_add_str (pe_op op_add_str pe_str (pe_op op_mul_str pe_str pe_int)) pe_str) pa_nil))))))) (pss_cons (ps_set (i := 0) sc__law_lines.nd rfl (Or.inl rfl) (pe_op op_cat (pv 0) (pe_lst (pa_cons (pe_op op_add_str (pe_op op_mul_str pe_str pe_int) pe_str) (pa_cons (pe_op op_add_str (pe_op op_mul_str pe_str pe_int) pe_str) (pa_cons (pe_op op_add_str (pe_op op_mul_str pe_str pe_int) pe_str) (pa_cons (pe_op op_add_str (pe_op op_mul_str pe_str pe_int) pe_str) pa_nil))))))) (pss_cons (ps_set (i := 0) sc__law_lines.nd rfl (Or.inl rfl) (pe_op op_cat (pv 0) (pe_lst (pa_cons (pe_op op_add_str (pe_op op_add_str pe_str (pe_op op_mul_str pe_str pe_int)) pe_str) (pa_cons (pe_op op_add_str (pe_op op_add_str pe_str (pe_op op_mul_str pe_str pe_int)) pe_str) (pa_cons (pe_op op_add_str (pe_op op_mul_str pe_str pe_int) pe_str) (pa_cons (pe_op op_mul_str pe_str pe_int) pa_nil))))))) (pss_one (ps_ret (pv 0)))))))))), ?_⟩
    refine seq_mid (fun σ' H' => ∃ (l : Addr) (acc : List V), σ' = [some (.ref l)] ∧ Same H H' ∧ H l = none ∧ H' l = some (.lst acc) ∧ 1 ≤ acc.length ∧ acc.length ≤ 6 ∧ ∀ x ∈ acc, StrLe 400 H' x) ?_ ?_
    rotate_left
    · intro nx hnx
      refine ⟨by show 6 ≤ sizeLine; decide, fun m hm => ?_⟩
      exact hnx _ _ ⟨m, _, rfl, same_new hm, hm, upd_same, by show 1 ≤ 6; decide, by show 6 ≤ 6; decide, fun x hx => in_strs (by decide +kernel) hx⟩
    rintro σ1 H1 ⟨l, acc, rfl, s1, n1, hl, c1, c2, hacc⟩
    refine seq_mid (fun σ' H' => ∃ (l : Addr) (acc : List V), σ' = [some (.ref l)] ∧ Same H H' ∧ H l = none ∧ H' l = some (.lst acc) ∧ 1 ≤ acc.length ∧ acc.length ≤ 14 ∧ ∀ x ∈ acc, StrLe 400 H' x) ?_ ?_
    rotate_left
    · intro nx hnx
      refine ⟨_, rfl, ?_⟩
      refine ⟨by show 8 ≤ sizeLine; decide, fun m hm => ?_⟩
      refine ⟨l, m, acc, _, rfl, rfl, same_new hm _ _ hl, upd_same, by show acc.length + 8 ≤ 16777216; omega, fun p hp => ?_⟩
      refine hnx _ _ ⟨p, _, rfl, (s1.trans (same_new hm)).trans (same_new hp), (s1.trans (same_new hm)).free hp, upd_same, by rw [List.length_append]; omega, by rw [List.length_append]; show acc.length + 8 ≤ 14; omega, fun x hx => ?_⟩
      rcases List.mem_append.mp hx with hx | hx
      · exact hacc x hx
      · exact in_strs (m := 400) (by decide +kernel) hx
    rintro σ1 H2 ⟨l, acc, rfl, s1, n1, hl, c1, c2, hacc⟩
    refine seq_mid (fun σ' H' => ∃ (l : Addr) (acc : List V), σ' = [some (.ref l)] ∧ Same H H' ∧ H l = none ∧ H' l = some (.lst acc) ∧ 1 ≤ acc.length ∧ acc.length ≤ 21 ∧ ∀ x ∈ acc, StrLe 400 H' x) ?_ ?_
    rotate_left
    · intro nx hnx
      refine ⟨_, rfl, ?_⟩
      refine ⟨by show 7 ≤ sizeLine; decide, fun m hm => ?_⟩
      refine ⟨l, m, acc, _, rfl, rfl, same_new hm _ _ hl, upd_same, by show acc.length + 7 ≤ 16777216; omega, fun p hp => ?_⟩
      refine hnx _ _ ⟨p, _, rfl, (s1.trans (same_new hm)).trans (same_new hp), (s1.trans (same_new hm)).free hp, upd_same, by rw [List.length_append]; omega, by rw [List.length_append]; show acc.length + 7 ≤ 21; omega, fun x hx => ?_⟩
      rcases List.mem_append.mp hx with hx | hx
      · exact hacc x hx
      · exact in_strs (m := 400) (by decide +kernel) hx
    rintro σ1 H2 ⟨l, acc, rfl, s1, n1, hl, c1, c2, hacc⟩
    refine seq_mid (fun σ' H' => ∃ (l : Addr) (acc : List V), σ' = [some (.ref l)] ∧ Same H H' ∧ H l = none ∧ H' l = some (.lst acc) ∧ 1 ≤ acc.length ∧ acc.length ≤ 27 ∧ ∀ x ∈ acc, StrLe 400 H' x) ?_ ?_
    rotate_left
    · intro nx hnx
      refine ⟨_, rfl, ?_⟩
      refine ⟨by show 6 ≤ sizeLine; decide, fun m hm => ?_⟩
      refine ⟨l, m, acc, _, rfl, rfl, same_new hm _ _ hl, upd_same, by show acc.length + 6 ≤ 16777216; omega, fun p hp => ?_⟩
      refine hnx _ _ ⟨p, _, rfl, (s1.trans (same_new hm)).trans (same_new hp), (s1.trans (same_new hm)).free hp, upd_same, by rw [List.length_append]; omega, by rw [List.length_append]; show acc.length + 6 ≤ 27; omega, fun x hx => ?_⟩
      rcases List.mem_append.mp hx with hx | hx
      · exact hacc x hx
      · exact in_strs (m := 400) (by decide +kernel) hx
    rintro σ1 H2 ⟨l, acc, rfl, s1, n1, hl, c1, c2, hacc⟩
    refine seq_mid (fun σ' H' => ∃ (l : Addr) (acc : List V), σ' = [some (.ref l)] ∧ Same H H' ∧ H l = none ∧ H' l = some (.lst acc) ∧ 1 ≤ acc.length ∧ acc.length ≤ 37 ∧ ∀ x ∈ acc, StrLe 400 H' x) ?_ ?_
    rotate_left
    · intro nx hnx
      refine ⟨_, rfl, ?_⟩
      refine ⟨by show 10 ≤ sizeLine; decide, fun m hm => ?_⟩
      refine ⟨l, m, acc, _, rfl, rfl, same_new hm _ _ hl, upd_same, by show acc.length + 10 ≤ 16777216; omega, fun p hp => ?_⟩
      refine hnx _ _ ⟨p, _, rfl, (s1.trans (same_new hm)).trans (same_new hp), (s1.trans (same_new hm)).free hp, upd_same, by rw [List.length_append]; omega, by rw [List.length_append]; show acc.length + 10 ≤ 37; omega, fun x hx => ?_⟩
      rcases List.mem_append.mp hx with hx | hx
      · exact hacc x hx
      · exact in_strs (m := 400) (by decide +kernel) hx
    rintro σ1 H2 ⟨l, acc, rfl, s1, n1, hl, c1, c2, hacc⟩
    refine seq_mid (fun σ' H' => ∃ (l : Addr) (acc : List V), σ' = [some (.ref l)] ∧ Same H H' ∧ H l = none ∧ H' l = some (.lst acc) ∧ 1 ≤ acc.length ∧ acc.length ≤ 41 ∧ ∀ x ∈ acc, StrLe 400 H' x) ?_ ?_
    rotate_left
    · intro nx hnx
      refine ⟨_, rfl, ?_⟩
      refine ⟨_, _, rfl, rfl, by decide, by decide, by decide +kernel, fun z0 hz0 => ?_⟩
      have hz0 : z0.length = 298 := by rw [hz0]; decide +kernel
      refine ⟨_, _, rfl, rfl, by rw [hz0]; decide +kernel, _, _, rfl, rfl, by rw [str_len_app, hz0]; decide +kernel, ?_⟩
      refine ⟨_, _, rfl, rfl, by decide, by decide, by decide +kernel, fun z1 hz1 => ?_⟩
      have hz1 : z1.length = 299 := by rw [hz1]; decide +kernel
      refine ⟨_, _, rfl, rfl, by rw [hz1]; decide +kernel, _, _, rfl, rfl, by rw [str_len_app, hz1]; decide +kernel, ?_⟩
      refine ⟨_, _, rfl, rfl, by decide, by decide, by decide +kernel, fun z2 hz2 => ?_⟩
      have hz2 : z2.length = 200 := by rw [hz2]; decide +kernel
      refine ⟨_, _, rfl, rfl, by rw [hz2]; decide +kernel, _, _, rfl, rfl, by rw [str_len_app, hz2]; decide +kernel, ?_⟩
      refine ⟨_, _, rfl, rfl, by decide, by decide, by decide +kernel, fun z3 hz3 => ?_⟩
      have hz3 : z3.length = 201 := by rw [hz3]; decide +kernel
      refine ⟨_, _, rfl, rfl, by rw [hz3]; decide +kernel, _, _, rfl, rfl, by rw [str_len_app, hz3]; decide +kernel, ?_⟩
      refine ⟨by show 4 ≤ sizeLine; decide, fun m hm => ?_⟩
      refine ⟨l, m, acc, _, rfl, rfl, same_new hm _ _ hl, upd_same, by show acc.length + 4 ≤ 16777216; omega, fun p hp => ?_⟩
      refine hnx _ _ ⟨p, _, rfl, (s1.trans (same_new hm)).trans (same_new hp), (s1.trans (same_new hm)).free hp, upd_same, by rw [List.length_append]; omega, by rw [List.length_append]; show acc.length + 4 ≤ 41; omega, fun x hx => ?_⟩
      rcases List.mem_append.mp hx with hx | hx
      · exact hacc x hx
      · simp only [List.mem_cons, List.not_mem_nil, or_false] at hx
        rcases hx with rfl | rfl | rfl | rfl
        · exact ⟨_, rfl, by rw [str_len_app, str_len_app, hz0]; decide +kernel⟩
        · exact ⟨_, rfl, by rw [str_len_app, str_len_app, hz1]; decide +kernel⟩
        · exact ⟨_, rfl, by rw [str_len_app, str_len_app, hz2]; decide +kernel⟩
        · exact ⟨_, rfl, by rw [str_len_app, str_len_app, hz3]; decide +kernel⟩
    rintro σ1 H2 ⟨l, acc, rfl, s1, n1, hl, c1, c2, hacc⟩
    refine seq_mid (fun σ' H' => ∃ (l : Addr) (acc : List V), σ' = [some (.ref l)] ∧ Same H H' ∧ H l = none ∧ H' l = some (.lst acc) ∧ 1 ≤ acc.length ∧ acc.length ≤ 45 ∧ ∀ x ∈ acc, StrLe 400 H' x) ?_ ?_
    rotate_left
    · intro nx hnx
      refine ⟨_, rfl, ?_⟩
      refine ⟨_, _, rfl, rfl, by decide, by decide, by decide +kernel, fun z0 hz0 => ?_⟩
      have hz0 : z0.length = 300 := by rw [hz0]; decide +kernel
      refine ⟨_, _, rfl, rfl, by rw [hz0]; decide +kernel, ?_⟩
      refine ⟨_, _, rfl, rfl, by decide, by decide, by decide +kernel, fun z1 hz1 => ?_⟩
      have hz1 : z1.length = 301 := by rw [hz1]; decide +kernel
      refine ⟨_, _, rfl, rfl, by rw [hz1]; decide +kernel, ?_⟩
      refine ⟨_, _, rfl, rfl, by decide, by decide, by decide +kernel, fun z2 hz2 => ?_⟩
      have hz2 : z2.length = 30 := by rw [hz2]; decide +kernel
      refine ⟨_, _, rfl, rfl, by rw [hz2]; decide +kernel, ?_⟩
      refine ⟨_, _, rfl, rfl, by decide, by decide, by decide +kernel, fun z3 hz3 => ?_⟩
      have hz3 : z3.length = 31 := by rw [hz3]; decide +kernel
      refine ⟨_, _, rfl, rfl, by rw [hz3]; decide +kernel, ?_⟩
      refine ⟨by show 4 ≤ sizeLine; decide, fun m hm => ?_⟩
      refine ⟨l, m, acc, _, rfl, rfl, same_new hm _ _ hl, upd_same, by show acc.length + 4 ≤ 16777216; omega, fun p hp => ?_⟩
      refine hnx _ _ ⟨p, _, rfl, (s1.trans (same_new hm)).trans (same_new hp), (s1.trans (same_new hm)).free hp, upd_same, by rw [List.length_append]; omega, by rw [List.length_append]; show acc.length + 4 ≤ 45; omega, fun x hx => ?_⟩
      rcases List.mem_append.mp hx with hx | hx
      · exact hacc x hx
      · simp only [List.mem_cons, List.not_mem_nil, or_false] at hx
        rcases hx with rfl | rfl | rfl | rfl
        · exact ⟨_, rfl, by rw [str_len_app, hz0]; decide +kernel⟩
        · exact ⟨_, rfl, by rw [str_len_app, hz1]; decide +kernel⟩
        · exact ⟨_, rfl, by rw [str_len_app, hz2]; decide +kernel⟩
        · exact ⟨_, rfl, by rw [str_len_app, hz3]; decide +kernel⟩
    rintro σ1 H2 ⟨l, acc, rfl, s1, n1, hl, c1, c2, hacc⟩
    refine seq_mid (fun σ' H' => ∃ (l : Addr) (acc : List V), σ' = [some (.ref l)] ∧ Same H H' ∧ H l = none ∧ H' l = some (.lst acc) ∧ 1 ≤ acc.length ∧ acc.length ≤ 49 ∧ ∀ x ∈ acc, StrLe 400 H' x) ?_ ?_
    rotate_left
    · intro nx hnx
      refine ⟨_, rfl, ?_⟩
      refine ⟨_, _, rfl, rfl, by decide, by decide, by decide +kernel, fun z0 hz0 => ?_⟩
      have hz0 : z0.length = 59 := by rw [hz0]; decide +kernel
      refine ⟨_, _, rfl, rfl, by rw [hz0]; decide +kernel, _, _, rfl, rfl, by rw [str_len_app, hz0]; decide +kernel, ?_⟩
      refine ⟨_, _, rfl, rfl, by decide, by decide, by decide +kernel, fun z1 hz1 => ?_⟩
      have hz1 : z1.length = 60 := by rw [hz1]; decide +kernel
      refine ⟨_, _, rfl, rfl, by rw [hz1]; decide +kernel, _, _, rfl, rfl, by rw [str_len_app, hz1]; decide +kernel, ?_⟩
      refine ⟨_, _, rfl, rfl, by decide, by decide, by decide +kernel, fun z2 hz2 => ?_⟩
      have hz2 : z2.length = 301 := by rw [hz2]; decide +kernel
      refine ⟨_, _, rfl, rfl, by rw [hz2]; decide +kernel, ?_⟩
      refine ⟨_, _, rfl, rfl, by decide, by decide, by decide +kernel, fun z3 hz3 => ?_⟩
      have hz3 : z3.length = 205 := by rw [hz3]; decide +kernel
      refine ⟨by show 4 ≤ sizeLine; decide, fun m hm => ?_⟩
      refine ⟨l, m, acc, _, rfl, rfl, same_new hm _ _ hl, upd_same, by show acc.length + 4 ≤ 16777216; omega, fun p hp => ?_⟩
      refine hnx _ _ ⟨p, _, rfl, (s1.trans (same_new hm)).trans (same_new hp), (s1.trans (same_new hm)).free hp, upd_same, by rw [List.length_append]; omega, by rw [List.length_append]; show acc.length + 4 ≤ 49; omega, fun x hx => ?_⟩
      rcases List.mem_append.mp hx with hx | hx
      · exact hacc x hx
      · simp only [List.mem_cons, List.not_mem_nil, or_false] at hx
        rcases hx with rfl | rfl | rfl | rfl
        · exact ⟨_, rfl, by rw [str_len_app, str_len_app, hz0]; decide +kernel⟩
        · exact ⟨_, rfl, by rw [str_len_app, str_len_app, hz1]; decide +kernel⟩
        · exact ⟨_, rfl, by rw [str_len_app, hz2]; decide +kernel⟩
        · exact ⟨_, rfl, by rw [hz3]; decide +kernel⟩
    rintro σ1 H2 ⟨l, acc, rfl, s1, n1, hl, c1, c2, hacc⟩
    exact ⟨_, rfl, q _ l acc s1 n1 hl c1 (by omega) hacc⟩
theorem cutS_len {z : PySem.Str} {lo hi : Option Int} : (cutS z lo hi).length ≤ z.length := by
  unfold cutS
  show (((z.cps.toList.drop _).take _).toArray).size ≤ z.cps.size
  rw [List.size_toArray, List.length_take, List.length_drop, Array.length_toList]
  omega
def sp__law_spoilt : Sp := fun vs H Q _ => ∃ (a : Addr) (t : PySem.Str), vs = [.ref a, .str t] ∧ BagAt H a ∧ t.length ≤ 1300000 ∧ ∀ H' (z : PySem.Str), Bg a H H' → z.length ≤ 3 * t.length + 500 → Q (.str z) H'
theorem ok__law_spoilt (T : Txt K mg) : Ok P w K mg base CX0 "_law_spoilt" 3 ["_law_bag_here", "_law_text"] sp__law_spoilt := by
  obtain ⟨f, fd, hm, F⟩ := T._law_spoilt
  refine ⟨f, fd, hm, F.kp, F.binds fun _ _ _ _ _ _ us hl => match us, hl with | [_, _], _ => rfl, F.ok sc__law_spoilt (fun vs H Q E h => ?_) (fun cdv A outer s H vs Q E hr h => ?_)⟩
  · obtain ⟨a, t, rfl, _⟩ := h
    rfl
  · obtain ⟨a, t, rfl, hb, ht, q⟩ := h
    have hl : t.length ≤ sizeLine := Nat.le_trans ht (by decide)
    refine ⟨_, pss_cons (ps_set (i := 2) sc__law_spoilt.nd rfl (Or.inl rfl) (pe_callO (ok__law_draw T) hr rfl (pa_cons (pv 0) (pa_cons pe_int pa_nil)))) (pss_cons (ps_set (i := 3) sc__law_spoilt.nd rfl (Or.inl rfl) (pe_op op_cat (pe_lst (pa_cons pe_int pa_nil)) (pe_lc (own := [("_law_k", 8)]) (g := gName 8) (tt := _) rfl sc__law_spoilt.nd (pi_range1 rfl T.range (pa_cons (pe_callB call_len_str rfl T.len (by decide +kernel) (pa_cons (pv 1) pa_nil)) pa_nil)) (blkOk_by (N := ["_law_bag_here", "_law_text", "_law_way", "_law_starts_here", "_law_at", "_law_end", "_law_place", "_law_sign", "_law_k"]) (sc := defScope s__law_spoilt) (by decide +kernel)) (fun _ _ _ _ _ => pg_name (i := 8) sc__law_spoilt.nd rfl (Or.inl rfl)) (fun _ _ _ _ _ => (pts_one (pt_cmpR op_eq (pe_ix ix_str (pv 1) (pv 8) (fun _ _ => rfl)) pe_str (nomark _)))) (fun _ _ _ _ _ => (pe_op op_add (pv 8) pe_int))))) (pss_cons (ps_set (i := 4) sc__law_spoilt.nd rfl (Or.inl rfl) (pe_callO (ok__law_pick T) hr rfl (pa_cons (pv 0) (pa_cons (pv 3) pa_nil)))) (pss_cons (ps_set (i := 5) sc__law_spoilt.nd rfl (Or.inl rfl) (pe_callB (call_max2 rfl) rfl T.max (by decide +kernel) (pa_cons (pv 4) (pa_cons (pe_op op_add (pe_bm PySem.F.plainAttrs_str PySem.F.slot_str_find PySem.F.type_str_find mt_find3 (pv 1) (pa_cons pe_str (pa_cons (pv 4) pa_nil))) pe_int) pa_nil)))) (pss_cons (ps_set (i := 6) sc__law_spoilt.nd rfl (Or.inl rfl) (pe_callO (ok__law_draw T) hr rfl (pa_cons (pv 0) (pa_cons (pe_op op_add (pe_callB call_len_str rfl T.len (by decide +kernel) (pa_cons (pv 1) pa_nil)) pe_int) pa_nil)))) (pss_cons (ps_set (i := 7) sc__law_spoilt.nd rfl (Or.inl rfl) (pe_callO (ok__law_pick T) hr rfl (pa_cons (pv 0) (pa_cons (pe_op op_add_str (pe_callO0 (ok__law_signs T) hr rfl) pe_str) pa_nil)))) (pss_cons (ps_if (pt_cmpR op_eq (pv 2) pe_int (nomark _)) (pss_one (ps_ret (pe_op op_add_str (pe_op op_add_str (pe_slice sl_str (pv 1) po_none (po_some (pv 4))) (pe_callO (ok__law_pick T) hr rfl (pa_cons (pv 0) (pa_cons (pe_callO0 (ok__law_lines T) hr rfl) pa_nil)))) (pe_slice sl_str (pv 1) (po_some (pv 4)) po_none)))) pss_nil) (pss_cons (ps_if (pt_cmpR op_eq (pv 2) pe_int (nomark _)) (pss_one (ps_ret (pe_op op_add_str (pe_op op_add_str (pe_slice sl_str (pv 1) po_none (po_some (pv 6))) (pv 7)) (pe_slice sl_str (pv 1) (po_some (pe_op op_add (pv 6) pe_int)) po_none)))) pss_nil) (pss_cons (ps_if (pt_cmpR op_eq (pv 2) pe_int (nomark _)) (pss_one (ps_ret (pe_op op_add_str (pe_op op_add_str (pe_slice sl_str (pv 1) po_none (po_some (pv 6))) (pv 7)) (pe_slice sl_str (pv 1) (po_some (pv 6)) po_none)))) pss_nil) (pss_cons (ps_if (pt_cmpR op_eq (pv 2) pe_int (nomark _)) (pss_one (ps_ret (pe_op op_add_str (pe_slice sl_str (pv 1) po_none (po_some (pv 6))) (pe_slice sl_str (pv 1) (po_some (pe_op op_add (pe_op op_add (pv 6) pe_int) (pe_callO (ok__law_draw T) hr rfl (pa_cons (pv 0) (pa_cons pe_int pa_nil))))) po_none)))) pss_nil) (pss_cons (ps_if (pt_cmpR op_eq (pv 2) pe_int (nomark _)) (pss_one (ps_ret (pe_slice sl_str (pv 1) po_none (po_some (pv 6))))) pss_nil) (pss_cons (ps_if (pt_cmpR op_eq (pv 2) pe_int (nomark _)) (pss_one (ps_ret (pe_op op_add_str (pe_op op_add_str (pe_slice sl_str (pv 1) po_none (po_some (pv 5))) (pe_slice sl_str (pv 1) (po_some (pv 4)) (po_some (pv 5)))) (pe_slice sl_str (pv 1) (po_some (pv 5)) po_none)))) pss_nil) (pss_one (ps_ret (pe_op op_add_str (pe_slice sl_str (pv 1) po_none (po_some (pv 4))) (pe_slice sl_str (pv 1) (po_some (pv 5)) po_none))))))))))))))), ?_⟩
    refine seq_mid (fun σ' H' => ∃ r : Int, σ' = [some (.ref a), some (.str t), some (.int r), none, none, none, none, none, none] ∧ Bg a H H') ?_ (fun nx hnx => ⟨_, rfl, a, 7, rfl, hb, by decide, fun H1 r b1 r0 r1 => hnx _ _ ⟨r, rfl, b1⟩⟩)
    rintro σ1 H1 ⟨way, rfl, b1⟩
    refine seq_mid (fun σ' H' => ∃ (l : Addr) (acc : List V) (v8 : Option V), σ' = [some (.ref a), some (.str t), some (.int way), some (.ref l), none, none, none, none, v8] ∧ Bg a H H' ∧ H' l = some (.lst acc) ∧ l ≠ a ∧ 1 ≤ acc.length ∧ acc.length ≤ 2000000 ∧ ∀ x ∈ acc, ∃ k : Int, x = .int k) ?_ ?_
    rotate_left
    · intro nx hnx
      refine ⟨by show 1 ≤ sizeLine; decide, fun l0 hl0 => ?_⟩
      have s0 := same_new (o := .lst [V.int 0]) hl0
      have h0 : (upd H1 l0 (.lst [V.int 0])) l0 = some (.lst [.int 0]) := upd_same
      generalize (upd H1 l0 (.lst [V.int 0])) = H2 at s0 h0
      refine ⟨_, rfl, _, rfl, hl, _, rfl, by omega, by omega, fun D hD => ?_⟩
      have b2 := b1.same s0
      have hDa : D ≠ a := b2.bag.ne hD
      refine lc_it (n := t.length) (G := fun _ => True) walk_range (fun j H' => Same H2 H' ∧ ∃ acc, H' D = some (.lst acc) ∧ acc.length ≤ j ∧ ∀ x ∈ acc, ∃ k : Int, x = .int k) ⟨same_new hD, [], upd_same, Nat.le_refl _, fun x hx => nomatch hx⟩ (fun _ _ _ _ => trivial) ?_ ?_
      · rintro j x H3 H4 hj ⟨s3, acc, h3, h4, h5⟩ ⟨rfl, rfl⟩
        refine ⟨rfl, ?_⟩
        have hj' : j < t.cps.toList.length := hj
        refine ⟨_, rfl, _, rfl, t, _, _, rfl, rfl, hl, by rw [Int.zero_add]; exact atI_nat (List.getElem?_eq_getElem hj'), rfl, _, rfl, ?_⟩
        refine ite2 (fun h => ⟨_, rfl, _, _, rfl, rfl, acc, h3, by have : t.length ≤ 16777216 := hl; show acc.length < 16777216; omega, same_mut s3 hD, acc ++ [_], upd_same, by rw [List.length_append]; show acc.length + 1 ≤ j + 1; omega, fun x hx => ?_⟩) (fun h => ⟨s3, acc, h3, by omega, h5⟩)
        rcases List.mem_append.mp hx with hx | hx
        · exact h5 x hx
        · exact ⟨_, List.mem_singleton.mp hx⟩
      · rintro H3 ⟨s3, acc, h3, h4, h5⟩
        refine ⟨l0, D, _, _, rfl, rfl, s3 _ _ h0, h3, by have : t.length ≤ 16777216 := hl; show 1 + acc.length ≤ 16777216; omega, fun p hp => ?_⟩
        refine hnx _ _ ⟨p, _, _, rfl, (b2.same s3).same (same_new hp), upd_same, (b2.same s3).bag.ne hp, by show 1 ≤ acc.length + 1; omega, by show acc.length + 1 ≤ 2000000; omega, fun x hx => ?_⟩
        rcases List.mem_cons.mp hx with hx | hx
        · exact ⟨0, hx⟩
        · exact h5 x hx
    rintro σ1 H2 ⟨l, acc, v8, rfl, b2, hl2, hla, c1, c2, hacc⟩
    refine seq_mid (fun σ' H' => ∃ k : Int, σ' = [some (.ref a), some (.str t), some (.int way), some (.ref l), some (.int k), none, none, none, v8] ∧ Bg a H H') ?_ ?_
    rotate_left
    · intro nx hnx
      refine ⟨_, rfl, _, rfl, .inl ⟨a, l, acc, rfl, b2.bag, hl2, hla, c1, by omega, fun H3 x b3 hx => ?_⟩⟩
      obtain ⟨k, rfl⟩ := hacc x hx
      exact hnx _ _ ⟨k, rfl, b2.trans b3⟩
    rintro σ1 H3 ⟨at', rfl, b3⟩
    refine seq_mid (fun σ' H' => ∃ k : Int, σ' = [some (.ref a), some (.str t), some (.int way), some (.ref l), some (.int at'), some (.int k), none, none, v8] ∧ H' = H3) ?_ ?_
    rotate_left
    · intro nx hnx
      refine ⟨_, rfl, _, rfl, rfl, _, rfl, _, _, _, rfl, rfl, _, _, rfl, rfl, _, _, rfl, ?_⟩
      exact hnx _ _ ⟨_, rfl, rfl⟩
    rintro σ1 H3 ⟨end', rfl, rfl⟩
    refine seq_mid (fun σ' H' => ∃ k : Int, σ' = [some (.ref a), some (.str t), some (.int way), some (.ref l), some (.int at'), some (.int end'), some (.int k), none, v8] ∧ Bg a H H') ?_ ?_
    rotate_left
    · intro nx hnx
      refine ⟨_, rfl, _, rfl, _, rfl, hl, _, _, rfl, rfl, a, _, rfl, b3.bag, by omega, fun H4 r b4 r0 r1 => ?_⟩
      exact hnx _ _ ⟨r, rfl, b3.trans b4⟩
    rintro σ1 H4 ⟨pl, rfl, b4⟩
    refine seq_mid (fun σ' H' => ∃ c : Nat, σ' = [some (.ref a), some (.str t), some (.int way), some (.ref l), some (.int at'), some (.int end'), some (.int pl), some (.str ⟨#[c]⟩), v8] ∧ Bg a H H') ?_ ?_
    rotate_left
    · intro nx hnx
      refine ⟨_, rfl, rfl, _, _, rfl, rfl, by decide +kernel, .inr ⟨a, _, rfl, b4.bag, by decide +kernel, by decide +kernel, fun H5 c b5 => ?_⟩⟩
      exact hnx _ _ ⟨c, rfl, b4.trans b5⟩
    rintro σ1 H5 ⟨c, rfl, b5⟩
    have cl : ∀ lo hi, (cutS t lo hi).length ≤ t.length := fun _ _ => cutS_len
    have c1' : (⟨#[c]⟩ : PySem.Str).length = 1 := rfl
    refine ⟨_, rfl, rfl, _, rfl, ite2 (fun h => ?_) (fun h => ⟨_, rfl, rfl, _, rfl, ite2 (fun h => ?_) (fun h => ⟨_, rfl, rfl, _, rfl, ite2 (fun h => ?_) (fun h => ⟨_, rfl, rfl, _, rfl, ite2 (fun h => ?_) (fun h => ⟨_, rfl, rfl, _, rfl, ite2 (fun h => ?_) (fun h => ⟨_, rfl, rfl, _, rfl, ite2 (fun h => ?_) (fun h => ?_)⟩)⟩)⟩)⟩)⟩)⟩
    · have x1 := cl none (some at')
      have x2 := cl (some at') none
      refine ⟨_, rfl, _, rfl, _, rfl, _, rfl, hl, _, rfl, rfl, fun H6 l6 acc6 s6 n6 h6 c61 c62 hacc6 => ?_⟩
      have b6 := b5.same s6
      refine .inl ⟨a, l6, acc6, rfl, b6.bag, h6, b5.bag.ne n6, c61, by omega, fun H7 x b7 hx => ?_⟩
      obtain ⟨z, rfl, hz⟩ := hacc6 x hx
      refine ⟨_, _, rfl, rfl, by show _ ≤ 16777216; omega, _, rfl, _, rfl, _, rfl, _, rfl, hl, _, _, rfl, rfl, by rw [str_len_app]; show _ ≤ 16777216; omega, ?_⟩
      exact q _ _ (b6.trans b7) (by rw [str_len_app, str_len_app]; omega)
    · have x1 := cl none (some pl)
      have x2 := cl (some (pl + 1)) none
      refine ⟨_, rfl, _, rfl, _, rfl, _, rfl, hl, _, rfl, _, _, rfl, rfl, by rw [c1']; show _ ≤ 16777216; omega, _, rfl, _, rfl, _, _, rfl, rfl, _, rfl, _, rfl, hl, _, _, rfl, rfl, by rw [str_len_app, c1']; show _ ≤ 16777216; omega, ?_⟩
      exact q _ _ b5 (by rw [str_len_app, str_len_app, c1']; omega)
    · have x1 := cl none (some pl)
      have x2 := cl (some pl) none
      refine ⟨_, rfl, _, rfl, _, rfl, _, rfl, hl, _, rfl, _, _, rfl, rfl, by rw [c1']; show _ ≤ 16777216; omega, _, rfl, _, rfl, _, rfl, _, rfl, hl, _, _, rfl, rfl, by rw [str_len_app, c1']; show _ ≤ 16777216; omega, ?_⟩
      exact q _ _ b5 (by rw [str_len_app, str_len_app, c1']; omega)
    · have x1 := cl none (some pl)
      refine ⟨_, rfl, _, rfl, _, rfl, _, rfl, hl, _, rfl, _, rfl, _, _, rfl, rfl, _, rfl, a, 3, rfl, b5.bag, by decide, fun H6 r b6 r0 r1 => ?_⟩
      have x2 := cl (some (pl + 1 + r)) none
      refine ⟨_, _, rfl, rfl, _, rfl, _, rfl, hl, _, _, rfl, rfl, by show _ ≤ 16777216; omega, ?_⟩
      exact q _ _ (b5.trans b6) (by rw [str_len_app]; omega)
    · have x1 := cl none (some pl)
      refine ⟨_, rfl, _, rfl, _, rfl, _, rfl, hl, ?_⟩
      exact q _ _ b5 (by omega)
    · have x1 := cl none (some end')
      have x2 := cl (some at') (some end')
      have x3 := cl (some end') none
      refine ⟨_, rfl, _, rfl, _, rfl, _, rfl, hl, _, rfl, _, rfl, _, rfl, _, rfl, _, rfl, _, rfl, hl, _, _, rfl, rfl, by show _ ≤ 16777216; omega, _, rfl, _, rfl, _, rfl, _, rfl, hl, _, _, rfl, rfl, by rw [str_len_app]; show _ ≤ 16777216; omega, ?_⟩
      exact q _ _ b5 (by rw [str_len_app, str_len_app]; omega)
    · have x1 := cl none (some at')
      have x2 := cl (some end') none
      refine ⟨_, rfl, _, rfl, _, rfl, _, rfl, hl, _, rfl, _, rfl, _, rfl, _, rfl, hl, _, _, rfl, rfl, by show _ ≤ 16777216; omega, ?_⟩
      exact q _ _ b5 (by rw [str_len_app]; omega)
def sp__law_pieces : Sp := fun vs H Q _ => ∃ (a : Addr) (t : Tx), vs = [.ref a, .str (S t)] ∧ BagAt H a ∧ t.length ≤ 4000000 ∧ ∀ H' l (ps : List Tx), Bg a H H' → H l = none → H' l = some (.lst (ps.map sV)) → ps.flatten = t → 1 ≤ ps.length → ps.length ≤ 50 → Q (.ref l) H'
theorem ok__law_pieces (T : Txt K mg) : Ok P w K mg base CX0 "_law_pieces" 3 ["_law_bag_here", "_law_text"] sp__law_pieces := by
  obtain ⟨f, fd, hm, F⟩ := T._law_pieces
  refine ⟨f, fd, hm, F.kp, F.binds fun _ _ _ _ _ _ us hl => match us, hl with | [_, _], _ => rfl, F.ok sc__law_pieces (fun vs H Q E h => ?_) (fun cdv A outer s H vs Q E hr h => ?_)⟩
  · obtain ⟨a, t, rfl, _⟩ := h
    rfl
  · obtain ⟨a, t, rfl, hb, ht, q⟩ := h
    have hl : t.length ≤ sizeLine := Nat.le_trans ht (by decide)
    refine ⟨_, pss_cons (ps_set (i := 2) sc__law_pieces.nd rfl (Or.inl rfl) (pe_callO (ok__law_draw T) hr rfl (pa_cons (pv 0) (pa_cons pe_int pa_nil)))) (pss_cons (ps_setLc (i := 3) (own := [("_law_k", 6)]) (g := gName 6) (tt := tYes) rfl sc__law_pieces.nd rfl rfl (sw_true rfl rfl rfl (by decide +kernel)) (pi_range1 rfl T.range (pa_cons (pe_callB (call_min2 rfl) rfl T.min (by decide +kernel) (pa_cons pe_int (pa_cons (pe_callB call_len_str rfl T.len (by decide +kernel) (pa_cons (pv 1) pa_nil)) pa_nil))) pa_nil)) (blkOk_by (N := ["_law_bag_here", "_law_text", "_law_way", "_law_sizes", "_law_pieces_here", "_law_size", "_law_k"]) (sc := defScope s__law_pieces) (by decide +kernel)) (fun _ _ _ _ _ => pg_name (i := 6) sc__law_pieces.nd rfl (Or.inl rfl)) (fun _ _ _ _ _ => pts_nil) (fun _ _ _ _ _ => pe_int)) (pss_cons (ps_if (pt_cmpR op_ne (pv 2) pe_int (nomark _)) (pss_cons (ps_set (i := 3) sc__law_pieces.nd rfl (Or.inl rfl) (pe_lst pa_nil)) (pss_one (ps_for PassesOwn.never rfl (pi_range1 rfl T.range (pa_cons (pe_callO (ok__law_pick T) hr rfl (pa_cons (pv 0) (pa_cons (pe_lst (pa_cons pe_int (pa_cons pe_int (pa_cons pe_int (pa_cons pe_int (pa_cons pe_int (pa_cons pe_int (pa_cons pe_int (pa_cons pe_int pa_nil))))))))) pa_nil))) pa_nil)) (pg_name (i := 6) sc__law_pieces.nd rfl (Or.inl rfl)) (pss_cons (ps_set (i := 5) sc__law_pieces.nd rfl (Or.inl rfl) (pe_op op_add pe_int (pe_callO (ok__law_draw T) hr rfl (pa_cons (pv 0) (pa_cons pe_int pa_nil))))) (pss_cons (ps_if (pt_cmpR op_eq (pv 2) pe_int (nomark _)) (pss_one (ps_set (i := 5) sc__law_pieces.nd rfl (Or.inl rfl) (pe_callO (ok__law_draw T) hr rfl (pa_cons (pv 0) (pa_cons (pe_op op_add (pe_callB call_len_str rfl T.len (by decide +kernel) (pa_cons (pv 1) pa_nil)) pe_int) pa_nil))))) pss_nil) (pss_one (ps_expr (pe_bm PySem.F.plainAttrs_list PySem.F.slot_list_append PySem.F.type_list_append mt_append (pv 3) (pa_cons (pe_op op_mul (pv 5) (pe_callO (ok__law_pick T) hr rfl (pa_cons (pv 0) (pa_cons (pe_lst (pa_cons pe_int (pa_cons pe_int (pa_cons pe_int (pa_cons pe_int pa_nil))))) pa_nil)))) pa_nil))))))))) pss_nil) (pss_cons (ps_set (i := 4) sc__law_pieces.nd rfl (Or.inl rfl) (pe_lst pa_nil)) (pss_cons (ps_for PassesOwn.never rfl (pi_list (pv 3)) (pg_name (i := 5) sc__law_pieces.nd rfl (Or.inl rfl)) (pss_cons (ps_expr (pe_bm PySem.F.plainAttrs_list PySem.F.slot_list_append PySem.F.type_list_append mt_append (pv 4) (pa_cons (pe_slice sl_str (pv 1) po_none (po_some (pv 5))) pa_nil))) (pss_one (ps_set (i := 1) sc__law_pieces.nd rfl (Or.inl rfl) (pe_slice sl_str (pv 1) (po_some (pv 5)) po_none))))) (pss_one (ps_ret (pe_op op_cat (pv 4) (pe_lst (pa_cons (pv 1) pa_nil))))))))), ?_⟩
    refine seq_mid (fun σ' H' => ∃ r : Int, σ' = [some (.ref a), some (.str (S t)), some (.int r), none, none, none, none] ∧ Bg a H H') ?_ (fun nx hnx => ⟨_, rfl, a, 4, rfl, hb, by decide, fun H1 r b1 r0 r1 => hnx _ _ ⟨r, rfl, b1⟩⟩)
    rintro σ1 H1 ⟨way, rfl, b1⟩
    refine seq_mid (fun σ' H' => ∃ (l : Addr) (acc : List V) (v6 : Option V), σ' = [some (.ref a), some (.str (S t)), some (.int way), some (.ref l), none, none, v6] ∧ Bg a H H' ∧ H' l = some (.lst acc) ∧ l ≠ a ∧ acc.length ≤ 40 ∧ ∀ x ∈ acc, ∃ k : Nat, x = .int k) ?_ ?_
    rotate_left
    · intro nx hnx
      refine ⟨_, rfl, _, rfl, by rw [S_len]; exact hl, _, _, rfl, _, rfl, ?_, ?_, fun D hD => ?_⟩
      · split <;> omega
      · split <;> omega
      refine lc_bag (G := fun _ => True) walk_range (a := a) (fun _ x => ∃ k : Nat, x = .int k) (fun _ _ _ _ h => h) hD b1.bag ?_ (fun _ _ => trivial) ?_ ?_
      · rw [S_len]
        split <;> omega
      · rintro j x H2 H3 hj b2 ⟨rfl, rfl⟩
        exact ⟨rfl, fun Q' k => k _ _ (Bg.refl b2.bag) ⟨1, rfl⟩⟩
      · intro H' acc b2 hD' hlen hacc
        refine hnx _ _ ⟨D, acc, _, rfl, b1.trans b2, hD', b1.bag.ne hD, ?_, hacc⟩
        rw [hlen, S_len]
        split <;> omega
    rintro σ1 H2 ⟨l, acc, v6, rfl, b2, hl2, hla, c2, hacc⟩
    refine seq_mid (fun σ' H' => ∃ (l : Addr) (acc : List V) (v5 v6 : Option V), σ' = [some (.ref a), some (.str (S t)), some (.int way), some (.ref l), none, v5, v6] ∧ Bg a H H' ∧ H' l = some (.lst acc) ∧ acc.length ≤ 40 ∧ ∀ x ∈ acc, ∃ k : Nat, x = .int k) ?_ ?_
    rotate_left
    · intro nx hnx
      refine ⟨_, rfl, rfl, _, rfl, ite2 (fun h => ?_) (fun h => hnx _ _ ⟨l, acc, _, _, rfl, b2, hl2, c2, hacc⟩)⟩
      refine ⟨by show 0 ≤ sizeLine; decide, fun m hm => ?_⟩
      have b3 := b2.same (same_new (o := .lst []) hm)
      have hma : m ≠ a := b2.bag.ne hm
      have hm3 : (upd H2 m (.lst [])) m = some (.lst []) := upd_same
      generalize (upd H2 m (.lst [])) = H3 at b3 hm3
      refine ⟨_, rfl, by show 8 ≤ sizeLine; decide, fun l4 hl4 => ?_⟩
      refine .inl ⟨a, l4, _, rfl, b3.bag.same (same_new hl4), upd_same, b3.bag.ne hl4, by show 1 ≤ 8; decide, by show 8 ≤ 4000000; decide, fun H4 x b4 hx => ?_⟩
      obtain ⟨n, rfl, n0, n1⟩ := in_ints (m := 7) (by decide +kernel) hx
      have b4 := (Bg.of_same b3.bag (same_new hl4)).trans b4
      refine ⟨n, rfl, by omega, by omega, ?_⟩
      refine for_it (n := n.toNat) (G := fun _ => True) walk_range (fun i σ H' => ∃ (acc : List V) (v5 v6 : Option V), σ = [some (.ref a), some (.str (S t)), some (.int way), some (.ref m), none, v5, v6] ∧ Bg a H H' ∧ H' m = some (.lst acc) ∧ acc.length ≤ i ∧ ∀ x ∈ acc, ∃ k : Nat, x = .int k)
        ⟨[], _, _, rfl, b3.trans b4, b4.1 _ _ hm3 hma, Nat.le_refl _, fun x hx => nomatch hx⟩ (fun _ _ _ _ _ => trivial) ?_ ?_
      · rintro i x σ H5 H6 hi ⟨acc, v5, v6, rfl, b5, hm5, hal, hacc5⟩ ⟨rfl, rfl⟩
        refine seq_mid (fun σ' H' => ∃ (k : Int) (v6 : Option V), σ' = [some (.ref a), some (.str (S t)), some (.int way), some (.ref m), none, some (.int k), v6] ∧ Bg a H6 H' ∧ 0 ≤ k ∧ k ≤ 5000000) ?_ ?_
        rotate_left
        · intro nx2 hnx2
          refine ⟨_, rfl, a, 7, rfl, b5.bag, by decide, fun H7 r b7 r0 r1 => ⟨_, _, rfl, rfl, ?_⟩⟩
          exact hnx2 _ _ ⟨1 + r, _, rfl, b7, by omega, by omega⟩
        rintro σ7 H7 ⟨k, v6', rfl, b7, k0, k1⟩
        refine seq_mid (fun σ' H' => ∃ (k : Int) (v6 : Option V), σ' = [some (.ref a), some (.str (S t)), some (.int way), some (.ref m), none, some (.int k), v6] ∧ Bg a H6 H' ∧ 0 ≤ k ∧ k ≤ 5000000) ?_ ?_
        rotate_left
        · intro nx2 hnx2
          refine ⟨_, rfl, rfl, _, rfl, ite2 (fun h => ?_) (fun h => hnx2 _ _ ⟨k, _, rfl, b7, k0, k1⟩)⟩
          refine ⟨_, rfl, _, rfl, _, rfl, by rw [S_len]; exact hl, _, _, rfl, rfl, a, _, rfl, b7.bag, by rw [S_len]; omega, fun H8 r b8 r0 r1 => ?_⟩
          rw [S_len] at r1
          exact hnx2 _ _ ⟨r, _, rfl, b7.trans b8, r0, by omega⟩
        rintro σ7 H8 ⟨k, v6', rfl, b8, k0, k1⟩
        have hm8 := b8.1 _ _ hm5 hma
        refine ⟨_, rfl, .inl ⟨rfl, _, SqL.of hm8⟩, _, rfl, _, rfl, by show 4 ≤ sizeLine; decide, fun l9 hl9 => ?_⟩
        refine .inl ⟨a, l9, _, rfl, b8.bag.same (same_new hl9), upd_same, b8.bag.ne hl9, by show 1 ≤ 4; decide, by show 4 ≤ 4000000; decide, fun H9 x b9 hx => ?_⟩
        obtain ⟨j, rfl, j0, j1⟩ := in_ints (m := 1) (by decide +kernel) hx
        have b9 := (b8.same (same_new hl9)).trans b9
        have hm9 := b9.1 _ _ hm5 hma
        have hmH : m ≠ a := hma
        refine ⟨_, _, rfl, rfl, .inl ⟨by omega, by omega⟩, m, acc, _, rfl, rfl, hm9, by show acc.length < 16777216; omega, ?_⟩
        refine ⟨acc ++ [_], _, _, rfl, ?_, upd_same, by rw [List.length_append]; show acc.length + 1 ≤ i + 1; omega, fun x hx => ?_⟩
        · have := b5.trans b9
          refine ⟨fun c y e hc => ?_, ?_⟩
          · have hcm : c ≠ m := fun z => by
              have e2 := b2.1 c y e hc
              rw [z, hm] at e2
              cases e2
            rw [upd_ne hcm]
            exact this.1 c y e hc
          · obtain ⟨d, kk, yy, g1, g2⟩ := this.2
            exact ⟨d, kk, yy, by rw [upd_ne hma.symm]; exact g1, g2⟩
        · rcases List.mem_append.mp hx with hx | hx
          · exact hacc5 x hx
          · refine ⟨(k * j).toNat, ?_⟩
            rw [List.mem_singleton.mp hx, Int.toNat_of_nonneg (Int.mul_nonneg k0 j0)]
      · rintro σ H5 ⟨acc, v5, v6, rfl, b5, hm5, hal, hacc5⟩
        exact hnx _ _ ⟨m, acc, _, _, rfl, b5, hm5, by omega, hacc5⟩
    rintro σ1 H3 ⟨l, acc, v5, v6, rfl, b3, hl3, c3, hacc⟩
    refine seq_mid (fun σ' H' => ∃ m, σ' = [some (.ref a), some (.str (S t)), some (.int way), some (.ref l), some (.ref m), v5, v6] ∧ H3 m = none ∧ H' = upd H3 m (.lst [])) ?_ (fun nx hnx => ⟨by show 0 ≤ sizeLine; decide, fun m hm => hnx _ _ ⟨m, rfl, hm, rfl⟩⟩)
    rintro σ1 H4 ⟨m, rfl, hm, rfl⟩
    have hlm : l ≠ m := fun z => by rw [z, hm] at hl3; cases hl3
    refine seq_mid (fun σ' H' => ∃ (ps : List Tx) (t' : Tx) (v5 : Option V), σ' = [some (.ref a), some (.str (S t')), some (.int way), some (.ref l), some (.ref m), v5, v6] ∧ Same H3 H' ∧ H' m = some (.lst (ps.map sV)) ∧ ps.length = acc.length ∧ ps.flatten ++ t' = t) ?_ ?_
    · rintro σ1 H5 ⟨ps, t', v5, rfl, s5, h5, h6, h7⟩
      refine ⟨_, rfl, _, rfl, by show 1 ≤ sizeLine; decide, fun n hn => ⟨m, n, _, _, rfl, rfl, same_new hn _ _ h5, upd_same, by rw [List.length_map, h6]; show acc.length + 1 ≤ 16777216; omega, fun r hr => ?_⟩⟩
      have b5 := b3.same s5
      refine q _ r (ps ++ [t']) ((b5.same (same_new hn)).same (same_new hr)) ((b5.same (same_new hn)).free hb hr) (by rw [upd_same, List.map_append]; rfl) (by rw [List.flatten_append]; simpa using h7) (by simp) (by rw [List.length_append, h6]; show acc.length + 1 ≤ 50; omega)
    · intro nx hnx
      refine ⟨_, rfl, l, rfl, ⟨acc, SqL.of (same_new hm _ _ hl3)⟩, ?_⟩
      refine for_it (n := acc.length) (G := fun H => SqL K H l acc) walk_list (fun i σ H' => ∃ (ps : List Tx) (t' : Tx) (v5 : Option V), σ = [some (.ref a), some (.str (S t')), some (.int way), some (.ref l), some (.ref m), v5, v6] ∧ Same H3 H' ∧ H' m = some (.lst (ps.map sV)) ∧ ps.length = i ∧ ps.flatten ++ t' = t)
        ⟨[], t, _, rfl, same_new hm, upd_same, rfl, rfl⟩ (fun i σ H' _ ⟨_, _, _, _, s, _⟩ => SqL.of (s _ _ hl3)) ?_ ?_
      · rintro i x σ H5 H6 hi ⟨ps, t', v5, rfl, s5, h5, h6, h7⟩ ⟨rfl, hx⟩
        obtain ⟨k, rfl⟩ := hacc x (List.mem_of_getElem? hx)
        have hl' : t'.length ≤ sizeLine := by
          have := congrArg List.length h7
          rw [List.length_append] at this
          show t'.length ≤ 16777216
          omega
        refine ⟨_, rfl, .inl ⟨rfl, _, SqL.of h5⟩, _, rfl, _, rfl, _, rfl, _, rfl, by rw [S_len]; exact hl', m, _, _, rfl, rfl, h5, by rw [List.length_map, h6]; show i < 16777216; omega, ?_⟩
        rw [cut_to]
        refine ⟨_, rfl, _, rfl, _, rfl, _, rfl, by rw [S_len]; exact hl', ?_⟩
        rw [cut_from]
        refine ⟨ps ++ [t'.take k], t'.drop k, _, rfl, same_mut s5 hm, by rw [upd_same, List.map_append]; rfl, by rw [List.length_append, h6]; rfl, ?_⟩
        rw [List.flatten_append, List.flatten_singleton, List.append_assoc, List.take_append_drop]
        exact h7
      · rintro σ H5 ⟨ps, t', v5, rfl, s5, h5, h6, h7⟩
        exact hnx _ _ ⟨ps, t', _, rfl, s5, h5, h6, h7⟩
end
end K6

set_option Elab.async false
set_option linter.all false
set_option maxRecDepth 100000
set_option maxHeartbeats 4000000
/-! KO1: texts of bodies. -/
namespace K6
open PySem PySem.Spec PyProof.Rows L2
section
variable {X : Cx} {CX : CXT} {k : Nat} {f : Addr} {fd : FuncData} {ps : List PySem.Str} {sp : Sp} {a b o : Expr} {fx y z : PySem.Str} {tb to ta : TE} {p1 p2 p3 p4 pf pos apos cpos q1 q2 : Pos} {j1 j2 : Nat}
/-- x.replace(y, z) of two different written texts, a token being out -/
theorem eval_repl {pins : List (Addr × Obj)} {s : Shared} {σ : L2.St} {H : Hp} {Q : VK} (h0 : 1 ≤ s.toks) (I : Inv X pins σ H s) (ho : PE X o to) (hyz : (y == z) = false)
    (h : to σ H fun x H1 => ∃ t, x = .str t ∧ t.length + (t.length + 1) * z.length ≤ 16777216 ∧ Q (.str (Txt.replace t y z)) H1)
    (hbase : attributeBase o "replace" X.env (eval o X.env) = eval o X.env)
    (hfew : ((backTo cpos (starEach [.Constant (.str y) j1 q1, .Constant (.str z) j2 q2] X.env)).all (fun x => !x.1) && (backToKw cpos (keywordEach [] X.env)).all (fun x => x.1.isSome)
      && decide (([.Constant (.str y) j1 q1, .Constant (.str z) j2 q2] : List Expr).length + ([] : List Keyword).length + (if ([] : List Keyword).isEmpty then 0 else 1) < 30)) = true)
    (hline : (apos.endLine == cpos.line) = true) :
    wpAny (model X.prog X.w) X.A (eval (.Call (.Attribute o "replace" apos) [.Constant (.str y) j1 q1, .Constant (.str z) j2 q2] [] cpos) X.env) (EP X pins σ Q) X.xe s := by
  refine wpAny_Call_method_late hbase hfew hline rfl (wpAny_mono (PySem.wpAny_toks (ho.run pins s σ H _ I h)) (fun v s1 hv => ?_) fun _ _ e => e.2)
  obtain ⟨hk, x, H1, I1, r1, t, rfl, hb, q⟩ := hv
  obtain ⟨g1, g2⟩ := tyV_is (T := "str") I1 r1 rfl
  refine ⟨"str", "str.replace", PySem.F.plainAttrs_str, PySem.F.slot_str_replace, PySem.F.type_str_replace, g1, g2, ?_⟩
  obtain ⟨tk, rfl⟩ := r1
  refine Calls.callWith_builtin (by rfl) (Calls.evalArgs_plain ?_)
  show wpAny _ _ (spliced ((false, eval (.Constant (.str y) j1 q1) X.env) :: backTo cpos (starEach [.Constant (.str z) j2 q2] X.env))) _ _ _
  refine Calls.spliced_cons (Calls.Constant_str (k := j1) (pos := q1) ?_)
  show wpAny _ _ (spliced ((false, eval (.Constant (.str z) j2 q2) X.env) :: backTo cpos (starEach [] X.env))) _ _ _
  refine Calls.spliced_cons (Calls.Constant_str (k := j2) (pos := q2) (Calls.spliced_nil ?_))
  refine SC.replace (by show s1.toks ≠ 0; omega) (by show s1.toks + 1 ≠ 0; omega) (by show s1.toks ≠ s1.toks + 1; omega) hyz hb fun t' k => ?_
  exact ⟨.str (Txt.replace t y z), H1, I1.tok _, ⟨_, rfl⟩, q⟩
def tBody (sp : Sp) (ta tb to : TE) (y z : PySem.Str) : TE := fun σ H Q => ta σ H fun x H1 => ∃ t, x = .str t ∧ t.length ≤ sizeLine ∧ tb σ H1 fun w H2 => ∃ n : Int, w = .int n ∧
  if decide ((t.length : Int) ≤ n) = true then to σ H2 fun x H3 => ∃ t, x = .str t ∧ t.length + (t.length + 1) * z.length ≤ 16777216 ∧ sp [.str (Txt.replace t y z)] H3 Q E0 else Q (.bl false) H2
theorem pe_body (F : FnOk X.prog X.w X.K X.mg X.base CX0 k f fd ps sp) (hr : Room k X.A) (hg : Gl X fx) (hm : X.mg fx = some (.ref f)) (hk : PySem.W.keepIn X.K (.ref f) = true) (hb : Binds X.K fd ps []) (hgl : Gl X "len") (hml : X.mg "len" = none)
    (pa : PE X a ta) (pb : PE X b tb) (po : PE X o to) (hyz : (y == z) = false) (hdb : (fx == ("__debug__" : PySem.Str)) = false := by decide)
    (hsa : starEach [a] X.env = [(false, eval a X.env)] := by rfl)
    (hbase : attributeBase o "replace" X.env (eval o X.env) = eval o X.env := by rfl)
    (hfew : ((backTo cpos (starEach [.Constant (.str y) j1 q1, .Constant (.str z) j2 q2] X.env)).all (fun x => !x.1) && (backToKw cpos (keywordEach [] X.env)).all (fun x => x.1.isSome)
      && decide (([.Constant (.str y) j1 q1, .Constant (.str z) j2 q2] : List Expr).length + ([] : List Keyword).length + (if ([] : List Keyword).isEmpty then 0 else 1) < 30)) = true := by rfl)
    (hline : (apos.endLine == cpos.line) = true := by rfl) (hm' : behindInMarks .LtE b = false := nomark _)
    (he : starEach [.Call (.Attribute o "replace" apos) [.Constant (.str y) j1 q1, .Constant (.str z) j2 q2] [] cpos] X.env = [(false, eval (.Call (.Attribute o "replace" apos) [.Constant (.str y) j1 q1, .Constant (.str z) j2 q2] [] cpos) X.env)] := by rfl) :
    PE X (.BoolOp .And [.Compare (.Call (.Name "len" p1) [a] [] p2) [.LtE] [b] p3, .Call (.Name fx pf) [.Call (.Attribute o "replace" apos) [.Constant (.str y) j1 q1, .Constant (.str z) j2 q2] [] cpos] [] p4] pos) (tBody sp ta tb to y z) := by
  refine ⟨fun pins s σ H Q I h => ?_⟩
  refine BoolOp_and (wpAny_Compare1 ?_ hm')
  refine wpAny_Call_Name_kw (ld_blt I hgl hml PySem.boot_len ?_)
  refine PyProof.Rows.callWith_builtin1 ?_ hsa rfl
  rw [hsa]
  refine Calls.spliced_cons (thn (pa.run pins s σ H _ I h) fun v s1 ⟨x, H1, I1, r1, t, e1, hl, q⟩ => Calls.spliced_nil ?_)
  subst e1
  obtain ⟨tk, rfl⟩ := r1
  refine PySem.P.len_str (by have := line63; omega) ?_
  refine wpAny_mono (PySem.wpAny_toks (pb.run pins _ σ H1 _ (I1.tok _) q)) (fun w s2 hw => ?_) fun _ _ e => e.2
  obtain ⟨hk2, w', H2, I2, r2, n, e2, q2⟩ := hw
  subst e2
  have ht2 : 1 ≤ s2.toks := by
    have : s1.toks + 1 + 1 ≤ s2.toks := hk2
    omega
  refine wpAny_mono (PySem.wpAny_toks (op_le pins s2 σ H2 (.int t.length) (.int n) _ w (fun c H' => c = .bl (decide ((t.length : Int) ≤ n)) ∧ H' = H2) I2 ⟨_, rfl⟩ r2 ⟨_, _, rfl, rfl, rfl, rfl⟩)) (fun c s3 hc => ?_) fun _ _ e => e.2
  obtain ⟨hk3, c', H3, I3, r3, e3, e4⟩ := hc
  subst e3 e4
  cases r3
  refine wpAny_truthy_bool ?_
  cases hd : decide ((t.length : Int) ≤ n) with
  | false =>
    rw [hd] at q2
    exact ⟨.bl false, H3, I3, rfl, q2⟩
  | true =>
    rw [hd] at q2
    have q2 : to σ H3 fun x H3 => ∃ t, x = .str t ∧ t.length + (t.length + 1) * z.length ≤ 16777216 ∧ sp [.str (Txt.replace t y z)] H3 Q E0 := q2
    refine BoolOp_one ?_
    refine wpAny_Call_Name_kw (ld_glob I3 hg hm ?_ hdb)
    refine PySem.W.callWith_K (h₀ := X.base) I3.ok.mod.kin hk ?_ he rfl
    rw [he]
    refine Calls.spliced_cons (thn (eval_repl (Q := fun v H' => sp [v] H' Q E0) (by omega) I3 po hyz q2 hbase hfew hline) fun u s4 ⟨x, H4, I4, r4, q4⟩ => Calls.spliced_nil ⟨I4.kIn, ?_⟩)
    exact run_fn F hr hb .nil pass0 I4 (.cons r4 .nil) q4
end
def isBodyT (t : Tx) : Bool := decide (t.length ≤ 100000) && (t.filter (· != 10)).all isPlain
theorem repl_nl (t : Tx) : Txt.replace (S t) (PySem.Str.ofString "\n") (PySem.Str.ofString "") = S (t.filter (· != 10)) := by
  rw [nl_S]
  exact TL.ext_tl (PyProof.Rows.replace_strikes (S t) 10)
section
variable {P : Program} {w : World} {K : PySem.W.Frag} {mg : PySem.Str → Option Value} {base : Heap}
def sp_is_body_text : Sp := fun vs H Q _ => ∃ t : Tx, vs = [.str (S t)] ∧ t.length ≤ 1000000 ∧ ∀ H', Same H H' → Q (.bl (isBodyT t)) H'
theorem ok_is_body_text (T : Txt K mg) : Ok P w K mg base CX0 "is_body_text" 3 ["text"] sp_is_body_text := by
  obtain ⟨f, fd, hm, F⟩ := T.is_body_text
  refine ⟨f, fd, hm, F.kp, F.binds fun _ _ _ _ _ _ us hl => match us, hl with | [_], _ => rfl, F.ok sc_is_body_text (fun vs H Q E h => ?_) (fun cdv A outer s H vs Q E hr h => ?_)⟩
  · obtain ⟨t, rfl, _⟩ := h
    rfl
  · obtain ⟨t, rfl, hl, q⟩ := h
    have hl1 : t.length ≤ sizeLine := Nat.le_trans hl (by decide)
    obtain ⟨f2, fd2, hm2, kp2, b2, F2⟩ := ok_is_plain (P := P) (w := w) (base := base) T
    refine ⟨_, pss_one (ps_ret (pe_body (F2.mono (by decide)) hr rfl hm2 kp2 b2 rfl T.len (pv 0) (pe_cc T.MOST_BODY rfl) (pv 0) (by decide +kernel))), ?_⟩
    refine ⟨_, rfl, _, rfl, by rw [S_len]; exact hl1, _, rfl, ?_⟩
    unfold isBodyT at q
    rw [S_len]
    refine ite2 (fun h => ?_) (fun h => ?_)
    · have h := of_decide_eq_true h
      rw [decide_eq_true (show t.length ≤ 100000 from by omega)] at q
      refine ⟨_, rfl, S t, rfl, by rw [S_len, show (PySem.Str.ofString "").length = 0 from by decide +kernel]; omega, ?_⟩
      rw [repl_nl]
      refine ⟨_, rfl, Nat.le_trans (List.length_filter_le _ _) hl1, fun H1 s1 => ?_⟩
      exact q _ s1
    · rw [decide_eq_false (show ¬ t.length ≤ 100000 from by have := nd h; omega)] at q
      exact q _ same_refl
end
end K6

set_option Elab.async false
set_option linter.all false
set_option maxRecDepth 100000
set_option maxHeartbeats 4000000
/-! KO2: messages. -/
namespace K6
open PySem PySem.Spec PyProof.Rows L2
theorem lk_eq {k : PySem.Str} {v : V} {r : List (PySem.Str × V)} : ((k, v) :: r).lookup k = some v := by simp [List.lookup]
theorem lk_ne {k a : PySem.Str} {v : V} {r : List (PySem.Str × V)} (h : ¬ k = a) : ((a, v) :: r).lookup k = r.lookup k := by
  have e : (k == a) = false := by simp [h]
  simp [List.lookup, e]
theorem pt_eq {k : PySem.Str} {v u : V} {r : List (PySem.Str × V)} : putF k v ((k, u) :: r) = (k, v) :: r := by
  show (if k = k then _ else _) = _
  rw [if_pos rfl]
theorem pt_ne {k a : PySem.Str} {v u : V} {r : List (PySem.Str × V)} (h : ¬ a = k) : putF k v ((a, u) :: r) = (a, u) :: putF k v r := by
  show (if a = k then _ else _) = _
  rw [if_neg h]
theorem pt_nil {k : PySem.Str} {v : V} : putF k v [] = [(k, v)] := rfl
theorem putF_len (k : PySem.Str) (v : V) : ∀ fs : List (PySem.Str × V), (putF k v fs).length ≤ fs.length + 1
  | [] => Nat.le_refl _
  | (a, u) :: r => by
    by_cases h : a = k
    · subst h; rw [pt_eq]; simp
    · rw [pt_ne h]
      have := putF_len k v r
      simp only [List.length_cons]
      omega
/-- what decides whether a body may stand -/
def keyOf (b : Bool) : PySem.Str := if b then "status" else "method"
def mayA (b : Bool) (a : Tx) : Bool := if b = true then decide (a ≠ T "same") && decide (a ≠ T "done") else decide (a = T "put")
def sp_ba (b : Bool) (C : Addr) : Sp := fun vs H Q _ => ∃ (p dx : Addr) (fs : List (PySem.Str × V)) (a : Tx), vs = [.ref p] ∧ H p = some (.ins C dx fs) ∧ fs.lookup (keyOf b) = some (sV a) ∧ ∀ H', Same H H' → Q (.bl (mayA b a)) H'
def FsOk (fs : List Fld) : Prop := ∀ f ∈ fs, isNameT f.1 = true ∧ isValueT f.2 = true
theorem isNameT_len {t : Tx} (h : isNameT t = true) : t.length ≤ 30 := by
  unfold isNameT at h
  simp only [Bool.and_eq_true, decide_eq_true_eq] at h
  exact h.1.1.1.2
theorem isValueT_len {t : Tx} (h : isValueT t = true) : t.length ≤ 200 := by
  unfold isValueT at h
  simp only [Bool.and_eq_true, decide_eq_true_eq] at h
  exact h.1.1
section
variable {P : Program} {w : World} {K : PySem.W.Frag} {mg : PySem.Str → Option Value} {base : Heap}
def Itm (b : Bool) (la : Addr) (K : PySem.W.Frag) (H : Hp) (xs : List V) (lst : Bool) : Prop := if lst = true then H la = some (.lst xs) else ∀ H, SqT K H la xs
def sp_minit (K : PySem.W.Frag) (b : Bool) (C : Addr) (lst : Bool) : Sp := fun vs H Q _ => ∃ (p dx la : Addr) (hd : List (PySem.Str × V)) (a bd : Tx) (xs : List V) (fs : List Fld), vs = [.ref p, .ref la, sV bd] ∧ H p = some (.ins C dx hd) ∧ hd.length ≤ 10 ∧ hd.lookup (keyOf b) = some (sV a) ∧
  hd.lookup ("body_allowed" : PySem.Str) = none ∧ Itm b la K H xs lst ∧ FldsAt H xs fs ∧ fs.length ≤ 40 ∧ FsOk fs ∧ isBodyT bd = true ∧ (bd = [] ∨ mayA b a = true) ∧
  ∀ H' L ys, Kp1 p H H' → H L = none → H' p = some (.ins C dx (putF "body" (sV bd) (putF "fields" (.ref L) hd))) → H' L = some (.lst ys) → FldsAt H' ys fs → Q .non H'
theorem isBodyT_len {t : Tx} (h : isBodyT t = true) : t.length ≤ 100000 := by
  unfold isBodyT at h
  simp only [Bool.and_eq_true, decide_eq_true_eq] at h
  exact h.1
theorem FldsAt.get {H : Hp} {xs : List V} {fs : List Fld} (h : FldsAt H xs fs) {i : Nat} {x : V} (hx : xs[i]? = some x) : ∃ f, fs[i]? = some f ∧ FldAt H x f := paired_get h hx
theorem FldsAt.take {H : Hp} : ∀ {xs : List V} {fs : List Fld}, FldsAt H xs fs → ∀ n, FldsAt H (xs.take n) (fs.take n)
  | _, _, .nil, n => by simp; exact .nil
  | _, _, .cons h r, 0 => .nil
  | _, _, .cons h r, n + 1 => .cons h (FldsAt.take r n)
theorem ok_minit_l (T : Txt K mg) {b : Bool} {C f : Addr} {fd : FuncData} (F : Fun K "__init__" "Message.__init__" s_Message___init__ f fd) (cl : Cls K C) (nF : NoAttr K C "fields") (nB : NoAttr K C "body")
    (hba : OkM P w K mg base CX0 C "body_allowed" 1 ["self"] (sp_ba b C)) : FnOk P w K mg base CX0 5 f fd ["self", "fields", "body"] (sp_minit K b C true) := by
  refine F.ok sc_Message___init__ (fun vs H Q E h => ?_) (fun cdv A outer s H vs Q E hr h => ?_)
  · obtain ⟨p, dx, la, hd, a, bd, xs, fs, rfl, _⟩ := h
    rfl
  · obtain ⟨p, dx, la, hd, a, bd, xs, fs, rfl, hp, hdl, hk, hba0, hla, hfs, hn, hok, hbd, hmay, q⟩ := h
    have hla : H la = some (.lst xs) := hla
    have hxn := hfs.length
    refine ⟨_, pss_cons (ps_if (pt_cmpR op_gt (pe_callB call_len rfl T.len (by decide +kernel) (pa_cons (pv 1) pa_nil)) (pe_cc T.MOST_FIELDS rfl) (nomark _)) (pss_one ps_never) pss_nil) (pss_cons (ps_for PassesOwn.never rfl (pi_list (pv 1)) (pg_tup (by rfl) (pgs_cons (pg_name (i := 3) sc_Message___init__.nd rfl (Or.inl rfl)) (pgs_cons (pg_name (i := 4) sc_Message___init__.nd rfl (Or.inl rfl)) pgs_nil))) (pss_one (ps_if (PW.pt (pw_or (pt_not (pt_val (pe_callO (ok_is_field_name T) hr rfl (pa_cons (pv 3) pa_nil)))) (pw_or1 (pt_not (pt_val (pe_callO (ok_is_value T) hr rfl (pa_cons (pv 4) pa_nil))))))) (pss_one ps_never) pss_nil))) (pss_cons (ps_if (PW.pt (pw_or (pt_not (pt_val (pe_callO (ok_is_body_text T) hr rfl (pa_cons (pv 2) pa_nil)))) (pw_or1 (PW.pt (pw_and (pt_cmpR op_ne (pv 2) pe_str (nomark _)) (pw_and1 (pt_not (pt_val (pe_methO0 hba (pv 0) cl hr))))))))) (pss_one ps_never) pss_nil) (pss_cons (ps_fld (pv 0) (pe_lc (own := [("name", 3), ("value", 4)]) (g := gTup K 2 (gCons (gName 3) (gCons (gName 4) gNil))) (tt := tYes) rfl sc_Message___init__.nd (pi_list (pv 1)) (blkOk_by (N := ["self", "fields", "body", "name", "value"]) (sc := defScope s_Message___init__) (by decide +kernel)) (fun _ _ _ _ _ => (show PG _ _ (gTup K 2 (gCons (gName 3) (gCons (gName 4) gNil))) from pg_tup (by rfl) (pgs_cons (pg_name (i := 3) sc_Message___init__.nd rfl (Or.inl rfl)) (pgs_cons (pg_name (i := 4) sc_Message___init__.nd rfl (Or.inl rfl)) pgs_nil)))) (fun _ _ _ _ _ => pts_nil) (fun _ _ _ _ _ => (pe_tup (pa_cons (pv 3) (pa_cons (pv 4) pa_nil))))) rfl) (pss_one (ps_fld (pv 0) (pv 2) rfl))))), ?_⟩
    have few : ∀ (k : PySem.Str) (v : V) (fs : List (PySem.Str × V)), (putF k v fs).length ≤ fs.length + 1 := putF_len
    refine seq_mid (fun σ' H' => σ' = [some (.ref p), some (.ref la), some (sV bd), none, none] ∧ H' = H) ?_ ?_
    rotate_left
    · intro nx hnx
      refine ⟨_, rfl, _, _, rfl, .inl ⟨xs, SqL.of hla, rfl⟩, _, _, rfl, rfl, _, rfl, ?_⟩
      rw [decide_eq_false (show ¬ (40 : Int) < (xs.length : Nat) from by omega)]
      exact iteF (hnx _ _ ⟨rfl, rfl⟩)
    rintro σ0 H0 ⟨rfl, rfl⟩
    refine seq_mid (fun σ' H' => ∃ v3 v4, σ' = [some (.ref p), some (.ref la), some (sV bd), v3, v4] ∧ Same H0 H') ?_ ?_
    rotate_left
    · intro nx hnx
      refine ⟨_, rfl, la, rfl, ⟨xs, SqL.of hla⟩, ?_⟩
      refine for_it (n := xs.length) (G := fun H => SqL K H la xs) walk_list (fun i σ H' => ∃ v3 v4, σ = [some (.ref p), some (.ref la), some (sV bd), v3, v4] ∧ Same H0 H') ⟨_, _, rfl, same_refl⟩ (fun i σ H' _ ⟨_, _, _, s⟩ => SqL.of (s _ _ hla)) ?_ (fun σ H1 ⟨v3, v4, e, s⟩ => hnx _ _ ⟨v3, v4, e, s⟩)
      rintro i x σ H1 H2 hi ⟨v3, v4, rfl, s1⟩ ⟨rfl, hx⟩
      obtain ⟨g, hg, pp', rfl, hpp⟩ := hfs.get hx
      obtain ⟨hv1, hv2⟩ := hok g (List.mem_of_getElem? hg)
      refine ⟨pp', _, rfl, SqT.of (s1 _ _ hpp), rfl, _, _, rfl, _, _, rfl, rfl, ?_⟩
      refine ⟨_, rfl, g.1, rfl, Nat.le_trans (isNameT_len hv1) (by decide), fun H3 s3 => ⟨_, rfl, ?_⟩⟩
      rw [hv1]
      refine iteF ⟨_, rfl, g.2, rfl, Nat.le_trans (isValueT_len hv2) (by decide), fun H4 s4 => ⟨_, rfl, ?_⟩⟩
      rw [hv2]
      exact iteF ⟨_, _, rfl, (s1.trans s3).trans s4⟩
    rintro σ1 H1 ⟨v3, v4, rfl, s1⟩
    refine seq_mid (fun σ' H' => σ' = [some (.ref p), some (.ref la), some (sV bd), v3, v4] ∧ Same H0 H') ?_ ?_
    rotate_left
    · intro nx hnx
      refine ⟨_, rfl, bd, rfl, Nat.le_trans (isBodyT_len hbd) (by decide), fun H2 s2 => ⟨_, rfl, ?_⟩⟩
      rw [hbd]
      refine iteF ⟨_, rfl, rfl, _, rfl, ?_⟩
      rw [show decide (sV bd = V.str (PySem.Str.ofString "")) = decide (bd = []) from dec_emp bd]
      refine ite2 (fun h => ⟨_, rfl, p, dx, hd, rfl, s2 _ _ (s1 _ _ hp), hba0, p, dx, hd, a, rfl, s2 _ _ (s1 _ _ hp), hk, fun H3 s3 => ⟨_, rfl, ?_⟩⟩) (fun h => ?_)
      · rcases hmay with hm | hm
        · exact absurd hm (pn h)
        · rw [hm]
          exact iteF (hnx _ _ ⟨rfl, (s1.trans s2).trans s3⟩)
      · exact hnx _ _ ⟨rfl, s1.trans s2⟩
    rintro σ2 H2 ⟨rfl, s2⟩
    refine ⟨_, rfl, la, rfl, ⟨xs, SqL.of (s2 _ _ hla)⟩, fun L hL => ?_⟩
    have hpL : p ≠ L := ne_of_none (s2 _ _ hp) hL
    refine lc_it (n := xs.length) (G := fun H => SqL K H la xs) walk_list (fun i H' => Same H2 H' ∧ ∃ ys, H' L = some (.lst ys) ∧ ys.length = i ∧ FldsAt H' ys (fs.take i)) ⟨same_new hL, [], upd_same, rfl, by rw [List.take_zero]; exact .nil⟩ (fun i H' _ ⟨s, _⟩ => SqL.of (s _ _ (s2 _ _ hla))) ?_ ?_
    · rintro i x H3 H4 hi ⟨s3, ys, h3, h4, h5⟩ ⟨rfl, hx⟩
      obtain ⟨g, hg, pp', rfl, hpp⟩ := hfs.get hx
      refine ⟨pp', _, rfl, SqT.of (s3 _ _ (s2 _ _ hpp)), rfl, _, _, rfl, _, _, rfl, rfl, rfl, ?_⟩
      refine ⟨_, rfl, _, rfl, by show 2 ≤ sizeLine; decide, fun t ht => ⟨ys, same_new ht _ _ h3, by rw [h4]; have : xs.length = fs.length := hxn; show i < 16777216; omega, same_mut (s3.trans (same_new ht)) hL, ys ++ [.ref t], upd_same, by rw [List.length_append, h4]; rfl, ?_⟩⟩
      rw [List.take_succ, hg]
      have k := put_tup (o := .lst (ys ++ [V.ref t])) (same_new (o := .tup (fldV g)) ht _ _ h3)
      exact FldsAt.snoc ⟨t, rfl, k _ _ upd_same⟩ (h5.mono fun b zs e => k _ _ (same_new ht _ _ e))
    · rintro H3 ⟨s3, ys, h3, h4, h5⟩
      rw [show xs.length = fs.length from hxn, List.take_length] at h5
      have hp3 := s3 _ _ (s2 _ _ hp)
      refine ⟨_, rfl, p, C, dx, _, rfl, hp3, cl, nF, by omega, _, rfl, _, rfl, p, C, dx, _, rfl, upd_same, cl, nB, by have := few "fields" (.ref L) hd; omega, ?_⟩
      refine q _ L ys (fun c z e hc => ?_) (s2.free hL) upd_same ?_ (h5.mono fun b zs e => ?_)
      · rw [upd_ne hc, upd_ne hc]
        exact s3 _ _ (s2 _ _ e)
      · rw [upd_ne hpL.symm, upd_ne hpL.symm]
        exact h3
      · have hbp : b ≠ p := fun z => by rw [z, hp3] at e; cases e
        rw [upd_ne hbp, upd_ne hbp]
        exact e
theorem ok_minit_t (T : Txt K mg) {b : Bool} {C f : Addr} {fd : FuncData} (F : Fun K "__init__" "Message.__init__" s_Message___init__ f fd) (cl : Cls K C) (nF : NoAttr K C "fields") (nB : NoAttr K C "body")
    (hba : OkM P w K mg base CX0 C "body_allowed" 1 ["self"] (sp_ba b C)) : FnOk P w K mg base CX0 5 f fd ["self", "fields", "body"] (sp_minit K b C false) := by
  refine F.ok sc_Message___init__ (fun vs H Q E h => ?_) (fun cdv A outer s H vs Q E hr h => ?_)
  · obtain ⟨p, dx, la, hd, a, bd, xs, fs, rfl, _⟩ := h
    rfl
  · obtain ⟨p, dx, la, hd, a, bd, xs, fs, rfl, hp, hdl, hk, hba0, hla, hfs, hn, hok, hbd, hmay, q⟩ := h
    have hla : SqT K H la xs := (show ∀ H, SqT K H la xs from hla) H
    have hxn := hfs.length
    refine ⟨_, pss_cons (ps_if (pt_cmpR op_gt (pe_callB call_len rfl T.len (by decide +kernel) (pa_cons (pv 1) pa_nil)) (pe_cc T.MOST_FIELDS rfl) (nomark _)) (pss_one ps_never) pss_nil) (pss_cons (ps_for PassesOwn.never rfl (pi_tup (pv 1)) (pg_tup (by rfl) (pgs_cons (pg_name (i := 3) sc_Message___init__.nd rfl (Or.inl rfl)) (pgs_cons (pg_name (i := 4) sc_Message___init__.nd rfl (Or.inl rfl)) pgs_nil))) (pss_one (ps_if (PW.pt (pw_or (pt_not (pt_val (pe_callO (ok_is_field_name T) hr rfl (pa_cons (pv 3) pa_nil)))) (pw_or1 (pt_not (pt_val (pe_callO (ok_is_value T) hr rfl (pa_cons (pv 4) pa_nil))))))) (pss_one ps_never) pss_nil))) (pss_cons (ps_if (PW.pt (pw_or (pt_not (pt_val (pe_callO (ok_is_body_text T) hr rfl (pa_cons (pv 2) pa_nil)))) (pw_or1 (PW.pt (pw_and (pt_cmpR op_ne (pv 2) pe_str (nomark _)) (pw_and1 (pt_not (pt_val (pe_methO0 hba (pv 0) cl hr))))))))) (pss_one ps_never) pss_nil) (pss_cons (ps_fld (pv 0) (pe_lc (own := [("name", 3), ("value", 4)]) (g := gTup K 2 (gCons (gName 3) (gCons (gName 4) gNil))) (tt := tYes) rfl sc_Message___init__.nd (pi_tup (pv 1)) (blkOk_by (N := ["self", "fields", "body", "name", "value"]) (sc := defScope s_Message___init__) (by decide +kernel)) (fun _ _ _ _ _ => (show PG _ _ (gTup K 2 (gCons (gName 3) (gCons (gName 4) gNil))) from pg_tup (by rfl) (pgs_cons (pg_name (i := 3) sc_Message___init__.nd rfl (Or.inl rfl)) (pgs_cons (pg_name (i := 4) sc_Message___init__.nd rfl (Or.inl rfl)) pgs_nil)))) (fun _ _ _ _ _ => pts_nil) (fun _ _ _ _ _ => (pe_tup (pa_cons (pv 3) (pa_cons (pv 4) pa_nil))))) rfl) (pss_one (ps_fld (pv 0) (pv 2) rfl))))), ?_⟩
    have few : ∀ (k : PySem.Str) (v : V) (fs : List (PySem.Str × V)), (putF k v fs).length ≤ fs.length + 1 := putF_len
    refine seq_mid (fun σ' H' => σ' = [some (.ref p), some (.ref la), some (sV bd), none, none] ∧ H' = H) ?_ ?_
    rotate_left
    · intro nx hnx
      refine ⟨_, rfl, _, _, rfl, .inr ⟨xs, hla, rfl⟩, _, _, rfl, rfl, _, rfl, ?_⟩
      rw [decide_eq_false (show ¬ (40 : Int) < (xs.length : Nat) from by omega)]
      exact iteF (hnx _ _ ⟨rfl, rfl⟩)
    rintro σ0 H0 ⟨rfl, rfl⟩
    refine seq_mid (fun σ' H' => ∃ v3 v4, σ' = [some (.ref p), some (.ref la), some (sV bd), v3, v4] ∧ Same H0 H') ?_ ?_
    rotate_left
    · intro nx hnx
      refine ⟨_, rfl, la, rfl, ⟨xs, hla⟩, ?_⟩
      refine for_it (n := xs.length) (G := fun H => SqT K H la xs) walk_tup (fun i σ H' => ∃ v3 v4, σ = [some (.ref p), some (.ref la), some (sV bd), v3, v4] ∧ Same H0 H') ⟨_, _, rfl, same_refl⟩ (fun i σ H' _ ⟨_, _, _, s⟩ => Same.seqT s hla) ?_ (fun σ H1 ⟨v3, v4, e, s⟩ => hnx _ _ ⟨v3, v4, e, s⟩)
      rintro i x σ H1 H2 hi ⟨v3, v4, rfl, s1⟩ ⟨rfl, hx⟩
      obtain ⟨g, hg, pp', rfl, hpp⟩ := hfs.get hx
      obtain ⟨hv1, hv2⟩ := hok g (List.mem_of_getElem? hg)
      refine ⟨pp', _, rfl, SqT.of (s1 _ _ hpp), rfl, _, _, rfl, _, _, rfl, rfl, ?_⟩
      refine ⟨_, rfl, g.1, rfl, Nat.le_trans (isNameT_len hv1) (by decide), fun H3 s3 => ⟨_, rfl, ?_⟩⟩
      rw [hv1]
      refine iteF ⟨_, rfl, g.2, rfl, Nat.le_trans (isValueT_len hv2) (by decide), fun H4 s4 => ⟨_, rfl, ?_⟩⟩
      rw [hv2]
      exact iteF ⟨_, _, rfl, (s1.trans s3).trans s4⟩
    rintro σ1 H1 ⟨v3, v4, rfl, s1⟩
    refine seq_mid (fun σ' H' => σ' = [some (.ref p), some (.ref la), some (sV bd), v3, v4] ∧ Same H0 H') ?_ ?_
    rotate_left
    · intro nx hnx
      refine ⟨_, rfl, bd, rfl, Nat.le_trans (isBodyT_len hbd) (by decide), fun H2 s2 => ⟨_, rfl, ?_⟩⟩
      rw [hbd]
      refine iteF ⟨_, rfl, rfl, _, rfl, ?_⟩
      rw [show decide (sV bd = V.str (PySem.Str.ofString "")) = decide (bd = []) from dec_emp bd]
      refine ite2 (fun h => ⟨_, rfl, p, dx, hd, rfl, s2 _ _ (s1 _ _ hp), hba0, p, dx, hd, a, rfl, s2 _ _ (s1 _ _ hp), hk, fun H3 s3 => ⟨_, rfl, ?_⟩⟩) (fun h => ?_)
      · rcases hmay with hm | hm
        · exact absurd hm (pn h)
        · rw [hm]
          exact iteF (hnx _ _ ⟨rfl, (s1.trans s2).trans s3⟩)
      · exact hnx _ _ ⟨rfl, s1.trans s2⟩
    rintro σ2 H2 ⟨rfl, s2⟩
    refine ⟨_, rfl, la, rfl, ⟨xs, Same.seqT s2 hla⟩, fun L hL => ?_⟩
    have hpL : p ≠ L := ne_of_none (s2 _ _ hp) hL
    refine lc_it (n := xs.length) (G := fun H => SqT K H la xs) walk_tup (fun i H' => Same H2 H' ∧ ∃ ys, H' L = some (.lst ys) ∧ ys.length = i ∧ FldsAt H' ys (fs.take i)) ⟨same_new hL, [], upd_same, rfl, by rw [List.take_zero]; exact .nil⟩ (fun i H' _ ⟨s, _⟩ => Same.seqT s (Same.seqT s2 hla)) ?_ ?_
    · rintro i x H3 H4 hi ⟨s3, ys, h3, h4, h5⟩ ⟨rfl, hx⟩
      obtain ⟨g, hg, pp', rfl, hpp⟩ := hfs.get hx
      refine ⟨pp', _, rfl, SqT.of (s3 _ _ (s2 _ _ hpp)), rfl, _, _, rfl, _, _, rfl, rfl, rfl, ?_⟩
      refine ⟨_, rfl, _, rfl, by show 2 ≤ sizeLine; decide, fun t ht => ⟨ys, same_new ht _ _ h3, by rw [h4]; have : xs.length = fs.length := hxn; show i < 16777216; omega, same_mut (s3.trans (same_new ht)) hL, ys ++ [.ref t], upd_same, by rw [List.length_append, h4]; rfl, ?_⟩⟩
      rw [List.take_succ, hg]
      have k := put_tup (o := .lst (ys ++ [V.ref t])) (same_new (o := .tup (fldV g)) ht _ _ h3)
      exact FldsAt.snoc ⟨t, rfl, k _ _ upd_same⟩ (h5.mono fun b zs e => k _ _ (same_new ht _ _ e))
    · rintro H3 ⟨s3, ys, h3, h4, h5⟩
      rw [show xs.length = fs.length from hxn, List.take_length] at h5
      have hp3 := s3 _ _ (s2 _ _ hp)
      refine ⟨_, rfl, p, C, dx, _, rfl, hp3, cl, nF, by omega, _, rfl, _, rfl, p, C, dx, _, rfl, upd_same, cl, nB, by have := few "fields" (.ref L) hd; omega, ?_⟩
      refine q _ L ys (fun c z e hc => ?_) (s2.free hL) upd_same ?_ (h5.mono fun b zs e => ?_)
      · rw [upd_ne hc, upd_ne hc]
        exact s3 _ _ (s2 _ _ e)
      · rw [upd_ne hpL.symm, upd_ne hpL.symm]
        exact h3
      · have hbp : b ≠ p := fun z => by rw [z, hp3] at e; cases e
        rw [upd_ne hbp, upd_ne hbp]
        exact e
end
end K6

set_option Elab.async false
set_option linter.all false
set_option maxRecDepth 100000
set_option maxHeartbeats 4000000
/-! KS: super().__init__(..) of an own class above. -/
namespace K6
open PySem PySem.Spec PyProof.Rows L2
/-- a def whose class stands in a cell, as it stands behind the top -/
structure SupF (P : Program) (K : PySem.W.Frag) (qual : PySem.Str) (st : Stmt) (D f cda cc : Addr) (fd : FuncData) : Prop where
  ex : ∃ (oc : Value) (od : Option Addr) (dV kV doc pm : Value) (an : Option Addr) (ct : Value) (osl : Array (Option Value)),
    fd = PySem.W.ksFn "__init__" qual (defArgs st) (defBody st) (defScope st) dV kV doc pm an (.ref cda) ct cc ∧ K.lookup f = some ⟨oc, od, .func fd, osl⟩
  code : PySem.W.codeIn K (.ref cda) qual = true
  rec_ : ∃ (ccl : Value) (cdd : Option Addr) (vs : Array Value) (ccs : Array (Option Value)) (file : PySem.Str) (tf : Tok), K.lookup cda = some ⟨ccl, cdd, .fields vs, ccs⟩ ∧ vs[2]? = some (.str file tf) ∧ ((P.main.file : PySem.Str) == file) = true
  cell : ∃ (cl : Value) (cld : Option Addr) (csl : Array (Option Value)), K.lookup cc = some ⟨cl, cld, .cell (some (.ref D)), csl⟩
  cls : ∃ cdD, PySem.W.clsIn K D = some cdD
  top : (P.main.scope.names.lookup ("super" : PySem.Str)).isSome = false
  any : PySem.W.nsIn K cStatics "thirdparty.any" = some none
/-- the class C has D above it; the next __init__ above D is the def at g -/
structure SupC (K : PySem.W.Frag) (C D g : Addr) : Prop where
  sub : PySem.W.mroIn K C (.ref D) = some true
  cls : ∃ cd, PySem.W.clsIn K C = some cd
  init : PySem.W.ks_superIn K C D "__init__" = some (some (.ref g))
  ty : PySem.W.typeIn K (.ref g) = some (.type "function")
  fn : PySem.W.fnIn K g = true
section
variable {X : Cx} {c : Code}
theorem at_cons {st : Stmt} {rest : List Stmt} {t : TS} {R : Flow → Shared → Prop} {s : Shared} {σ : L2.St} {H : Hp} (h1 : PS X st t) (I : Inv X [] σ H s)
    (hq : t { nx := fun σ' H' => ∀ s', Inv X [] σ' H' s' → _root_.PySem.wpAt (model X.prog X.w) X.A c (execs rest X.env) R X.xe s', rt := fun _ _ => False } σ H) :
    _root_.PySem.wpAt (model X.prog X.w) X.A c (execs (st :: rest) X.env) R X.xe s := by
  refine ks_wpAt_execs_cons (_root_.PySem.wpAt_of_wpAny (wpAny_mono (h1.run [] s σ H _ I hq) (fun f s' q => ?_) fun _ _ e => e))
  cases f with
  | next =>
    obtain ⟨σ', H', I', q⟩ := q
    exact q s' I'
  | brk =>
    obtain ⟨_, _, _, q⟩ := q
    exact q.elim
  | cont =>
    obtain ⟨_, _, _, q⟩ := q
    exact q.elim
  | ret u =>
    obtain ⟨_, _, _, _, _, q⟩ := q
    exact q.elim
variable {P : Program} {w : World} {K : PySem.W.Frag} {mg : PySem.Str → Option Value} {base : Heap}
/-- super().__init__(..) as the last statement -/
theorem sup_last {qual : PySem.Str} {st : Stmt} {D f cda cc C g x dx : Addr} {fd fd2 : FuncData} {body : List Stmt} {p0 p1 ap cp ep : Pos} {e : Expr} {es : List Expr} {t : TA} {k : Nat} {ps : List PySem.Str} {sp : Sp} {s : Shared} {σ : L2.St} {H : Hp} {fs : List (PySem.Str × V)}
    {nx : L2.St → Hp → Prop} {ar : Arg}
    (S : SupF X.prog X.K qual st D f cda cc fd) (SC : SupC X.K C D g) (F : FnOk X.prog X.w X.K X.mg X.base CX0 k g fd2 ps sp) (hb : Binds X.K fd2 ps []) (hr : Room k X.A) (ha : PA X (e :: es) t)
    (hks : X.env.kindOf "super" = some .globalImplicit) (hkc : X.env.kindOf "__class__" = some .free) (hka : X.env.kindOf ar.arg = some .local) (hfu : X.env.func = some f) (hco : X.env.code = .ref cda) (hcl : X.env.cells.lookup ("__class__" : PySem.Str) = some cc)
    (hp : ((defArgs st).posonlyargs ++ (defArgs st).args).head? = some ar) (hN : X.N[0]? = some ar.arg) (hmg : X.mg "super" = none)
    (hi : interactive X.env = false) (hs : swapsWith (.Call (.Attribute (.Call (.Name "super" p0) [] [] p1) "__init__" ap) (e :: es) [] cp) none ep.line X.env = pure false)
    (hev : eval (.Call (.Attribute (.Call (.Name "super" p0) [] [] p1) "__init__" ap) (e :: es) [] cp) X.env = (do
      let ov ← attributeBase (.Call (.Name "super" p0) [] [] p1) "__init__" X.env (eval (.Call (.Name "super" p0) [] [] p1) X.env)
      standAt ap.atName
      let (f, first) ← holding [ov] (getMethod ov "__init__" (pure false))
      callWith cp f first (backTo cp (starEach (e :: es) X.env)) []))
    (hse : starEach (e :: es) X.env = (false, eval e X.env) :: starEach es X.env) (hpl : (backTo cp (starEach es X.env)).any (·.1) = false)
    (I : Inv X [] σ H s) (hσ : σ[0]? = some (some (.ref x))) (hx : H x = some (.ins C dx fs))
    (hq : t σ H fun vs H1 => sp (.ref x :: vs) H1 (fun _ H2 => nx σ H2) E0) :
    _root_.PySem.wpAt (model X.prog X.w) X.A (.func body X.env) (execs [.Expr (.Call (.Attribute (.Call (.Name "super" p0) [] [] p1) "__init__" ap) (e :: es) [] cp) ep] X.env)
      (fun f s' => f = .next ∧ ∃ σ' H', Inv X [] σ' H' s' ∧ nx σ' H') X.xe s := by
  obtain ⟨oc, od, dV, kV, doc, pm, an, ct, osl, rfl, lk⟩ := S.ex
  obtain ⟨ccl, cdd, vs, ccs, file, tf, lk2, hv2, hfile⟩ := S.rec_
  obtain ⟨cl, cld, csl, lk3⟩ := S.cell
  obtain ⟨cdD, hD⟩ := S.cls
  obtain ⟨cdC, hC⟩ := SC.cls
  refine ks_wpAt_execs_cons (ks_wpAt_Expr_any ?_ hi hs)
  refine ks_wpAt_MethodCall (pl := pure false) ?_ hev
  have KX := I.kIn
  obtain ⟨mb, hb1, hb2⟩ := I.mod.blt
  obtain ⟨m, hn, hloc⟩ := I.loc
  have hvis : Vis X.env.scope ar.arg := .inl hka
  obtain ⟨u, ru, hlook⟩ := hloc 0 _ _ hN hσ hvis
  obtain rfl : u = Value.ref x := ru
  have hm : m ar.arg = some (.ref x) := by
    rcases hlook with ⟨_, h⟩ | ⟨h, _⟩
    · exact h
    · rw [hka] at h
      rcases h with h | h <;> cases h
  obtain ⟨mA, O, _, _, _, _⟩ := ins_get I.hok hx
  have hoD : ∃ oD, s.heap.get? D = some oD ∧ oD.data = .cls cdD := by
    unfold PySem.W.clsIn at hD
    split at hD
    · rename_i c d cd' sl ho
      cases hD
      exact ⟨_, KX _ _ ho, rfl⟩
    · cases hD
  obtain ⟨oD, hD1, hD2⟩ := hoD
  have hxC : x ≠ C := by
    obtain ⟨od', J, _⟩ := O.look
    exact PySem.W.ks_ne KX J hC
  have hkind := I.ok.kind
  refine ks_wpAt_super_base hks hkc (by decide +kernel) hfu (KX _ _ lk) rfl hp hco (KX _ _ lk2) rfl hv2 hfile S.top ?_
  refine PySem.W.ks_loadName_global hkind hks (Calls.loadGlobal_builtin (by rw [I.ok.glob]; exact I.mod.glob.keeps I.bk) hmg (by rw [I.ok.blt]; exact hb1.keeps I.bk) ((hb2 _ (by decide +kernel)).trans (by decide +kernel)) ⟨rfl, ?_⟩)
  refine wpAny_loadName_free hkind hkc hcl ⟨_, KX _ _ lk3, rfl⟩ ?_
  refine wpAny_loadName_local hkind hka hn hm ?_
  refine ks_wpAny_isType_cls hD1 hD2 ⟨rfl, ?_⟩
  refine ks_wpAny_call_super hD1 hD2 O.obj rfl (fun c z => by cases z) (PySem.W.looks_mroIn KX SC.sub) (fun h' eo kk => ?_)
  have I1 : Inv X [] σ H ⟨h', s.gens, s.drawn, s.toks, s.os⟩ := I.kept (t' := s.toks) kk
  have KX1 := I1.kIn
  obtain ⟨of, hof, hofc⟩ : ∃ of, h'.get? g = some of ∧ of.cls = .type "function" := by
    have ht' : (X.K.lookup g).map (·.cls) = some (.type "function") := SC.ty
    cases z : X.K.lookup g with
    | none => rw [z] at ht'; cases ht'
    | some of => rw [z] at ht'; exact ⟨of, KX1 _ _ z, Option.some.inj ht'⟩
  have hini := SC.init
  unfold PySem.W.ks_superIn at hini
  rw [hC] at hini
  refine ks_wpAny_getMethod_super eo (PySem.W.looks_opaque KX1 S.any) (l₀ := cdC.mro) (fun A Q E s k q => wpAny_bind ((PySem.W.looks_clsIn KX1 hC) A _ E s k (wpAny_pure q))) rfl KX1 hini hof hofc hxC (by decide +kernel) ?_
  have I2 := ClX.met_new (g := g) (C := x) I1
  refine ClX.callwith_cm I2 (ClX.base_none I1 (Nat.le_refl _)) SC.fn (thn (ha.run cp _ _ σ H _ I2 hq) fun us s3 ⟨vs, H2, I3, rv, q2⟩ => ⟨⟨ClX.pin_at I3, I3.kIn⟩, ?_⟩) hse hpl
  have FR : FnR X.prog X.w X.K X.mg X.base CX0 k g sp := fun A outer s H us vs Q E hr e0 r h => F.run A outer s H ⟨us, []⟩ us vs Q E hr e0 (by have := hb s us (e0.mod.kin.keeps fun b o e => (e0.bs b o e).1) (by rw [List.append_nil, ← r.length]; exact F.len _ _ _ _ h); rw [List.append_nil] at this; exact this) r h
  refine thn (ClX.run_cm FR hr pass0 I3 rv q2) fun u s4 ⟨v, H4, I4, r4, q4⟩ => ?_
  exact _root_.PySem.wpAt_of_wpAny (wpAny_pure ⟨rfl, σ, H4, I4, q4⟩)
end
end K6

set_option Elab.async false
set_option linter.all false
set_option maxRecDepth 100000
set_option maxHeartbeats 4000000
/-! KS2: a def whose last statement is super().__init__(..); Request, Response. -/
namespace K6
open PySem PySem.Spec PyProof.Rows L2 NdefX
theorem lk_eqA {k : PySem.Str} {v : Addr} {r : List (PySem.Str × Addr)} : ((k, v) :: r).lookup k = some v := by simp [List.lookup]
section
variable {P : Program} {w : World} {K : PySem.W.Frag} {mg : PySem.Str → Option Value} {base : Heap}
abbrev supN (qual : PySem.Str) (st : Stmt) (cda cc : Addr) : NF := ⟨"__init__", qual, defArgs st, defBody st, defScope st, [("__class__", cc)], cda⟩
theorem sup_ok {qual : PySem.Str} {st : Stmt} {D f cda cc : Addr} {fd : FuncData} {N ps : List PySem.Str} {k : Nat} {sp : Sp} (S : SupF P K qual st D f cda cc fd) (NS : NScope N ps ["__class__"] (defScope st)) (len : ∀ vs H Q E, sp vs H Q E → vs.length = ps.length)
    (hbody : ∀ (A : Around) (outer : List Env) (s : Shared) (H : Hp) (vs : List V) (Q : VK) (E : XK), Room k (A.deeper (envF (supN qual st cda cc) f s.heap.objs.size)) → sp vs H Q E → ∀ s1, Inv (ncx CX0 P w K mg base N (supN qual st cda cc) f A outer s H E) [] (startF N vs [none]) H s1 →
      _root_.PySem.wpAt (model P w) (A.deeper (envF (supN qual st cda cc) f s.heap.objs.size)) (.func (defBody st) (envF (supN qual st cda cc) f s.heap.objs.size)) (execs (defBody st) (envF (supN qual st cda cc) f s.heap.objs.size))
        (fun fl s' => fl = .next ∧ ∃ σ' H', Inv (ncx CX0 P w K mg base N (supN qual st cda cc) f A outer s H E) [] σ' H' s' ∧ Q .non H') (ncx CX0 P w K mg base N (supN qual st cda cc) f A outer s H E).xe s1) :
    FnOk P w K mg base CX0 (k + 1) f fd ps sp := by
  obtain ⟨oc, od, dV, kV, doc, pm, an, ct, osl, rfl, lk⟩ := S.ex
  obtain ⟨cl, cld, csl, lk3⟩ := S.cell
  refine ⟨len, fun A outer s H args us vs Q E hr e0 hb r hsp => ?_⟩
  have hl := len _ _ _ _ hsp
  have KX : K.In s.heap := e0.mod.kin.keeps fun b o e => (e0.bs b o e).1
  have lim : s.heap.NoLimit := e0.mod.nolimit.keeps fun b o e => (e0.bs b o e).1
  have hcl : ∀ y c, ([(("__class__" : PySem.Str), cc)] : List (PySem.Str × Addr)).lookup y = some c → c = cc := fun y c e => by
    have := PySem.mem_of_lookup e
    rw [List.mem_singleton] at this
    cases this
    rfl
  have C : CellsAt (supN qual st cda cc).cl ["__class__"] [none] s.heap H := by
    refine ⟨rfl, fun y c e => ?_, fun x y c e1 e2 => ?_, fun i y hi => ?_⟩
    · have e := hcl y c e
      subst e
      have hbs := e0.mod.kin _ _ lk3
      exact ⟨(e0.bs _ _ hbs).2, _, _, (e0.bs _ _ hbs).1, rfl⟩
    · have h1 := PySem.mem_of_lookup e1
      have h2 := PySem.mem_of_lookup e2
      have h1 : (x, c) ∈ [(("__class__" : PySem.Str), cc)] := h1
      have h2 : (y, c) ∈ [(("__class__" : PySem.Str), cc)] := h2
      rw [List.mem_singleton] at h1 h2
      cases h1
      cases h2
      rfl
    · cases i with
      | zero =>
        have hi : some ("__class__" : PySem.Str) = some y := hi
        cases hi
        exact ⟨cc, lk_eqA, fun v hv => by cases hv⟩
      | succ i => simp at hi
  refine ks_codeAny_call_defAt hr.depth (KX _ _ lk) rfl lim (PySem.W.codeRec_of KX S.code) rfl hb NS.nocell (fun ⟨n, _⟩ hy => NS.par n (List.of_mem_zip hy).1) (fun h₁ hns kp => ?_) NS.co NS.gen NS.kind
  have I := inv_startN (CX := CX0) (P := P) (w := w) (K := K) (mg := mg) (base := base) (F := supN qual st cda cc) (f := f) (E := E) (tk := s.toks + (ps.zip us).length) NS hr.hd e0 hl r C hns kp
  refine ks_wpAt_mono (hbody A outer s H vs Q E (hr.deeper _) hsp _ I) (fun fl s' hs => ?_) fun e s' hs => hs
  obtain ⟨rfl, σ', H', J, q⟩ := hs
  exact ⟨V.non, H', J.os, J.bare, J.base, J.hok, rfl, q⟩
/-- a message's fields -/
def hdF (b : Bool) (args : List Tx) : List (PySem.Str × V) := match b, args with
  | true, s :: _ => [("status", sV s)]
  | false, m :: p :: _ => [("method", sV m), ("path", sV p)]
  | _, _ => []
def msgF (b : Bool) (args : List Tx) (L : Addr) (bd : Tx) : List (PySem.Str × V) := hdF b args ++ ([("fields", .ref L), ("body", sV bd)] : List (PySem.Str × V))
def argsOk' (b : Bool) (args : List Tx) : Prop := match b, args with
  | true, [s] => s ∈ statusesT
  | false, [m, p] => m ∈ methodsT ∧ isPathT p = true ∧ p.length ≤ 1000
  | _, _ => False
def sp_init (K : PySem.W.Frag) (b : Bool) (C : Addr) (lst : Bool) : Sp := fun vs H Q _ => ∃ (p dx la : Addr) (args : List Tx) (bd : Tx) (xs : List V) (fs : List Fld), vs = .ref p :: (args.map sV ++ [.ref la, sV bd]) ∧ argsOk' b args ∧ H p = some (.ins C dx []) ∧
  Itm b la K H xs lst ∧ (lst = true → la ≠ p) ∧ FldsAt H xs fs ∧ fs.length ≤ 40 ∧ FsOk fs ∧ isBodyT bd = true ∧ (bd = [] ∨ mayA b (args.headD []) = true) ∧
  ∀ H' L ys, Kp1 p H H' → H L = none → H' p = some (.ins C dx (msgF b args L bd)) → H' L = some (.lst ys) → FldsAt H' ys fs → Q .non H'
theorem Itm.put {b : Bool} {la p : Addr} {H : Hp} {xs : List V} {lst : Bool} {o : HO} (h : Itm b la K H xs lst) (hne : lst = true → la ≠ p) : Itm b la K (upd H p o) xs lst := by
  cases lst with
  | true =>
    have h : H la = some (.lst xs) := h
    show upd H p o la = _
    rw [upd_ne (hne rfl)]
    exact h
  | false => exact h
theorem ins_flds {p : Addr} {H : Hp} {xs : List V} {fs : List Fld} {C dx : Addr} {f0 : List (PySem.Str × V)} {o : HO} (h : FldsAt H xs fs) (hp : H p = some (.ins C dx f0)) : FldsAt (upd H p o) xs fs :=
  h.mono fun b ys e => by
    rw [upd_ne fun z => by rw [z, hp] at e; cases e]
    exact e
theorem ok_rinit {lst : Bool} {C f cda cc g : Addr} {fd fd2 : FuncData} (T : Txt K mg) (S : SupF P K "Request.__init__" s_Request___init__ C f cda cc fd) (SC : SupC K C C g) (G : FnOk P w K mg base CX0 5 g fd2 ["self", "fields", "body"] (sp_minit K false C lst)) (bG : Binds K fd2 ["self", "fields", "body"] [])
    (cl : Cls K C) (nM : NoAttr K C "method") (nP : NoAttr K C "path") : FnOk P w K mg base CX0 6 f fd ["self", "method", "path", "fields", "body"] (sp_init K false C lst) := by
  refine sup_ok (N := ["self", "method", "path", "fields", "body", "__class__"]) S (nscope_by (by decide +kernel)) (fun vs H Q E h => ?_) (fun A outer s H vs Q E hr h s1 I => ?_)
  · obtain ⟨p, dx, la, args, bd, xs, fs, rfl, ha, _⟩ := h
    match args, ha with
    | [m, pa], _ => rfl
  · obtain ⟨p, dx, la, args, bd, xs, fs, rfl, ha, hp, hla, hne, hfs, hn, hok, hbd, hmay, q⟩ := h
    match args, ha with
    | [m, pa], ⟨hm1, hm2, hm3⟩ =>
    obtain ⟨aMe, hMe, sMe⟩ := T.METHODS
    have hr' : Room 5 (ncx CX0 P w K mg base ["self", "method", "path", "fields", "body", "__class__"] (supN "Request.__init__" s_Request___init__ cda cc) f A outer s H E).A := hr
    refine at_cons (X := ncx CX0 P w K mg base ["self", "method", "path", "fields", "body", "__class__"] (supN "Request.__init__" s_Request___init__ cda cc) f A outer s H E) (ps_if (pt_cmpR op_notIn_seq (pv 1) (pe_cc hMe rfl) (by rfl)) (pss_one ps_never) pss_nil) I ?_
    refine ⟨_, rfl, _, _, rfl, .inr (sMe _), rfl, flat_sV _, _, rfl, ?_⟩
    rw [inV_str, decide_eq_true hm1]
    refine iteF fun s2 I2 => ?_
    refine at_cons (X := ncx CX0 P w K mg base ["self", "method", "path", "fields", "body", "__class__"] (supN "Request.__init__" s_Request___init__ cda cc) f A outer s H E) (let hr := hr'; (ps_if (pt_not (pt_val (pe_callO (ok_is_path T) hr rfl (pa_cons (pv 2) pa_nil)))) (pss_one ps_never) pss_nil)) I2 ?_
    refine ⟨_, rfl, pa, rfl, Nat.le_trans hm3 (by decide), fun H3 e3 => ⟨_, rfl, ?_⟩⟩
    rw [hm2]
    refine iteF fun s3 I3 => ?_
    refine at_cons (X := ncx CX0 P w K mg base ["self", "method", "path", "fields", "body", "__class__"] (supN "Request.__init__" s_Request___init__ cda cc) f A outer s H E) (ps_fld (pv 0) (pv 1) rfl) I3 ?_
    refine ⟨_, rfl, _, rfl, p, C, dx, _, rfl, e3 _ _ hp, cl, nM, by decide, fun s4 I4 => ?_⟩
    refine at_cons (X := ncx CX0 P w K mg base ["self", "method", "path", "fields", "body", "__class__"] (supN "Request.__init__" s_Request___init__ cda cc) f A outer s H E) (ps_fld (pv 0) (pv 2) rfl) I4 ?_
    refine ⟨_, rfl, _, rfl, p, C, dx, _, rfl, upd_same, cl, nP, by show 1 < 1000; decide, fun s5 I5 => ?_⟩
    have hd2 : putF "path" (sV pa) (putF "method" (sV m) []) = hdF false [m, pa] := by
      rw [pt_nil, pt_ne (by decide +kernel), pt_nil]
      rfl
    rw [hd2] at I5
    have hla3 : Itm false la K H3 xs lst := by
      cases lst with
      | true => exact e3 _ _ hla
      | false => exact hla
    have hfs3 : FldsAt H3 xs fs := hfs.mono fun b ys e => e3 _ _ e
    have hp3 := e3 _ _ hp
    refine ks_wpAt_mono (sup_last (X := ncx CX0 P w K mg base ["self", "method", "path", "fields", "body", "__class__"] (supN "Request.__init__" s_Request___init__ cda cc) f A outer s H E) S SC G bG hr' (pa_cons (pv 3) (pa_cons (pv 4) pa_nil)) rfl rfl rfl rfl rfl rfl rfl rfl T.super rfl rfl rfl rfl rfl I5 rfl upd_same (nx := fun _ H' => Q .non H') ?_) (fun f s' h => h) (fun _ _ e => e)
    refine ⟨_, rfl, _, rfl, p, dx, la, hdF false [m, pa], m, bd, xs, fs, rfl, upd_same, by show 2 ≤ 10; decide, lk_eq, (lk_ne (by decide +kernel)).trans ((lk_ne (by decide +kernel)).trans rfl), (hla3.put hne).put hne, ins_flds (ins_flds hfs3 hp3) upd_same, hn, hok, hbd, hmay, fun H6 L ys k6 n6 h6 h7 h8 => ?_⟩
    refine q H6 L ys (fun c z e hc => k6 _ _ ?_ hc) ?_ ?_ h7 h8
    · rw [upd_ne hc, upd_ne hc]
      exact e3 _ _ e
    · cases hz : H L with
      | none => rfl
      | some z =>
        by_cases hLp : L = p
        · rw [hLp, upd_same] at n6; cases n6
        · rw [upd_ne hLp, upd_ne hLp, e3 _ _ hz] at n6
          cases n6
    · rw [h6]
      refine congrArg (fun z => some (HO.ins C dx z)) ?_
      rw [show hdF false [m, pa] = [(("method" : PySem.Str), sV m), (("path" : PySem.Str), sV pa)] from rfl]
      repeat first | rw [pt_nil] | rw [pt_ne (by decide +kernel)]
      rfl
theorem ok_sinit {lst : Bool} {C f cda cc g : Addr} {fd fd2 : FuncData} (T : Txt K mg) (S : SupF P K "Response.__init__" s_Response___init__ C f cda cc fd) (SC : SupC K C C g) (G : FnOk P w K mg base CX0 5 g fd2 ["self", "fields", "body"] (sp_minit K true C lst)) (bG : Binds K fd2 ["self", "fields", "body"] [])
    (cl : Cls K C) (nS : NoAttr K C "status") : FnOk P w K mg base CX0 6 f fd ["self", "status", "fields", "body"] (sp_init K true C lst) := by
  refine sup_ok (N := ["self", "status", "fields", "body", "__class__"]) S (nscope_by (by decide +kernel)) (fun vs H Q E h => ?_) (fun A outer s H vs Q E hr h s1 I => ?_)
  · obtain ⟨p, dx, la, args, bd, xs, fs, rfl, ha, _⟩ := h
    match args, ha with
    | [m], _ => rfl
  · obtain ⟨p, dx, la, args, bd, xs, fs, rfl, ha, hp, hla, hne, hfs, hn, hok, hbd, hmay, q⟩ := h
    match args, ha with
    | [m], hm1 =>
    have hm1 : m ∈ statusesT := hm1
    obtain ⟨aSt, hSt, sSt⟩ := T.STATUSES
    have hr' : Room 5 (ncx CX0 P w K mg base ["self", "status", "fields", "body", "__class__"] (supN "Response.__init__" s_Response___init__ cda cc) f A outer s H E).A := hr
    refine at_cons (X := ncx CX0 P w K mg base ["self", "status", "fields", "body", "__class__"] (supN "Response.__init__" s_Response___init__ cda cc) f A outer s H E) (ps_if (pt_cmpR op_notIn_seq (pv 1) (pe_cc hSt rfl) (by rfl)) (pss_one ps_never) pss_nil) I ?_
    refine ⟨_, rfl, _, _, rfl, .inr (sSt _), rfl, flat_sV _, _, rfl, ?_⟩
    rw [inV_str, decide_eq_true hm1]
    refine iteF fun s2 I2 => ?_
    refine at_cons (X := ncx CX0 P w K mg base ["self", "status", "fields", "body", "__class__"] (supN "Response.__init__" s_Response___init__ cda cc) f A outer s H E) (ps_fld (pv 0) (pv 1) rfl) I2 ?_
    refine ⟨_, rfl, _, rfl, p, C, dx, _, rfl, hp, cl, nS, by decide, fun s5 I5 => ?_⟩
    rw [show putF "status" (sV m) [] = hdF true [m] from rfl] at I5
    refine ks_wpAt_mono (sup_last (X := ncx CX0 P w K mg base ["self", "status", "fields", "body", "__class__"] (supN "Response.__init__" s_Response___init__ cda cc) f A outer s H E) S SC G bG hr' (pa_cons (pv 2) (pa_cons (pv 3) pa_nil)) rfl rfl rfl rfl rfl rfl rfl rfl T.super rfl rfl rfl rfl rfl I5 rfl upd_same (nx := fun _ H' => Q .non H') ?_) (fun f s' h => h) (fun _ _ e => e)
    refine ⟨_, rfl, _, rfl, p, dx, la, hdF true [m], m, bd, xs, fs, rfl, upd_same, by show 1 ≤ 10; decide, lk_eq, (lk_ne (by decide +kernel)).trans rfl, hla.put hne, ins_flds hfs hp, hn, hok, hbd, hmay, fun H6 L ys k6 n6 h6 h7 h8 => ?_⟩
    refine q H6 L ys (fun c z e hc => k6 _ _ ?_ hc) ?_ ?_ h7 h8
    · rw [upd_ne hc]
      exact e
    · cases hz : H L with
      | none => rfl
      | some z =>
        by_cases hLp : L = p
        · rw [hLp, upd_same] at n6; cases n6
        · rw [upd_ne hLp, hz] at n6
          cases n6
    · rw [h6]
      refine congrArg (fun z => some (HO.ins C dx z)) ?_
      rw [show hdF true [m] = [(("status" : PySem.Str), sV m)] from rfl]
      repeat first | rw [pt_nil] | rw [pt_ne (by decide +kernel)]
      rfl
end
end K6

set_option Elab.async false
set_option linter.all false
set_option maxRecDepth 100000
set_option maxHeartbeats 4000000
/-! KO3: start lines of messages, what stands behind the top of classes. -/
namespace K6
open PySem PySem.Spec PyProof.Rows L2
def startL (b : Bool) (args : List Tx) : Tx := match b, args with
  | true, [s] => T "answer " ++ s
  | false, [m, p] => T "ask " ++ (m ++ (T " " ++ p))
  | _, _ => []
theorem start_args {b : Bool} {st : Tx} (h : startOkT b st = true) (hl : st.length ≤ 1000) : startL b (startArgs b st) = st ∧ argsOk' b (startArgs b st) ∧ mayA b ((startArgs b st).headD []) = mayT st := by
  have hj := join_words st
  have hin : ∀ x ∈ words st, x.length ≤ st.length := fun x h => words_in st h
  unfold startOkT at h
  unfold startArgs
  generalize words st = ws at h hj hin ⊢
  cases b with
  | true =>
    match ws, h with
    | [a, s], h =>
      dsimp only at h ⊢
      rw [Bool.and_eq_true, decide_eq_true_eq, decide_eq_true_eq] at h
      obtain ⟨h1, h2⟩ := h
      have e : st = T "answer " ++ s := by
        rw [← hj, h1]
        show T "answer" ++ 32 :: s = _
        have e2 : T "answer " = T "answer" ++ [32] := by decide +kernel
        rw [e2, List.append_assoc]
        rfl
      refine ⟨e.symm, h2, ?_⟩
      have e3 : T "answer " = [97, 110, 115, 119, 101, 114, 32] := by decide +kernel
      have e4 : T "ask " = [97, 115, 107, 32] := by decide +kernel
      have e5 : (T "ask ").isPrefixOf st = false := by rw [e, e3, e4]; rfl
      unfold mayT mayA
      rw [if_pos rfl, if_neg (by rw [e5]; simp)]
      have c1 : T "answer same" = T "answer " ++ T "same" := by decide +kernel
      have c2 : T "answer done" = T "answer " ++ T "done" := by decide +kernel
      rw [c1, c2, e]
      show (decide (s ≠ T "same") && decide (s ≠ T "done")) = _
      congr 1
      · exact decide_eq_decide.mpr (not_congr ⟨fun z => by rw [z], fun z => List.append_cancel_left z⟩)
      · exact decide_eq_decide.mpr (not_congr ⟨fun z => by rw [z], fun z => List.append_cancel_left z⟩)
  | false =>
    match ws, h with
    | [a, m, p], h =>
      dsimp only at h ⊢
      rw [Bool.and_eq_true, Bool.and_eq_true, decide_eq_true_eq, decide_eq_true_eq] at h
      obtain ⟨⟨h1, h2⟩, h3⟩ := h
      have e : st = T "ask " ++ (m ++ (T " " ++ p)) := by
        rw [← hj, h1]
        show T "ask" ++ 32 :: (m ++ 32 :: p) = _
        have e2 : T "ask " = T "ask" ++ [32] := by decide +kernel
        have e3 : T " " = [32] := by decide +kernel
        rw [e2, e3, List.append_assoc]
        rfl
      refine ⟨e.symm, ⟨h2, h3, Nat.le_trans (hin p (by simp)) hl⟩, ?_⟩
      have e4 : T "ask " = [97, 115, 107, 32] := by decide +kernel
      have e5 : (T "ask ").isPrefixOf st = true := by rw [e, e4]; rfl
      have e6 : T "ask put " = [97, 115, 107, 32, 112, 117, 116, 32] := by decide +kernel
      have e7 : T " " = [32] := by decide +kernel
      unfold mayT mayA
      rw [if_neg (by simp), if_pos e5]
      show decide (m = T "put") = _
      rw [e, e4, e6, e7]
      have g1 : T "get" = [103, 101, 116] := by decide +kernel
      have g2 : T "put" = [112, 117, 116] := by decide +kernel
      have g3 : T "delete" = [100, 101, 108, 101, 116, 101] := by decide +kernel
      unfold methodsT at h2
      rw [g1, g2, g3] at h2
      simp only [List.mem_cons, List.not_mem_nil, or_false] at h2
      rcases h2 with rfl | rfl | rfl
      · rw [g2]; rfl
      · rw [g2]; rfl
      · rw [g2]; rfl
structure Ad where
  req : Addr
  rsp : Addr
  dft : Addr
  rdr : Addr
def Ad.cls (D : Ad) (b : Bool) : Addr := if b = true then D.rsp else D.req
def PFun (K : PySem.W.Frag) (C : Addr) (name qual : PySem.Str) (st : Stmt) : Prop := ∃ (p g : Addr) (fd : FuncData), PropOf K C name p g ∧ Fun K name qual st g fd
def IFun (K : PySem.W.Frag) (C : Addr) (qual : PySem.Str) (st : Stmt) : Prop := ∃ (f : Addr) (fd : FuncData), Mk K C f ∧ Fun K "__init__" qual st f fd
/-- the maker of a message -/
def MInit (P : Program) (K : PySem.W.Frag) (C : Addr) (qual : PySem.Str) (st : Stmt) : Prop := ∃ (f cda cc g e : Addr) (fd fd2 : FuncData), SupF P K qual st C f cda cc fd ∧ Mk K C f ∧ SupC K C C g ∧ Fun K "__init__" "Message.__init__" s_Message___init__ g fd2 ∧
  DflV K fd.defaults [.ref e, str ""] ∧ ∀ H, SqT K H e []
structure Obs (P : Program) (K : PySem.W.Frag) (mg : PySem.Str → Option Value) (D : Ad) : Prop where
  rq : mg "Request" = some (.ref D.req)
  rs : mg "Response" = some (.ref D.rsp)
  df : mg "Draft" = some (.ref D.dft)
  rd : mg "Reader" = some (.ref D.rdr)
  rqC : Cls K D.req
  rsC : Cls K D.rsp
  dfC : Cls K D.dft
  rdC : Cls K D.rdr
  rqN : ∀ f ∈ (["method", "path", "fields", "body"] : List PySem.Str), NoAttr K D.req f
  rsN : ∀ f ∈ (["status", "fields", "body"] : List PySem.Str), NoAttr K D.rsp f
  dfN : ∀ f ∈ (["blank", "fields", "framing_value", "open_ended", "body_signs", "signs_due"] : List PySem.Str), NoAttr K D.dft f
  rdN : ∀ f ∈ (["stream_side", "stage_name", "fault_found", "messages_done", "signs_read", "unfinished_line", "draft", "stream_ended"] : List PySem.Str), NoAttr K D.rdr f
  rqI : MInit P K D.req "Request.__init__" s_Request___init__
  rsI : MInit P K D.rsp "Response.__init__" s_Response___init__
  dfI : IFun K D.dft "Draft.__init__" s_Draft___init__
  rdI : IFun K D.rdr "Reader.__init__" s_Reader___init__
  rqS : PFun K D.req "start" "Message.start" s_Message_start
  rsS : PFun K D.rsp "start" "Message.start" s_Message_start
  rqM : PFun K D.req "may_have_body" "Message.may_have_body" s_Message_may_have_body
  rsM : PFun K D.rsp "may_have_body" "Message.may_have_body" s_Message_may_have_body
  rdS : PFun K D.rdr "stage" "Reader.stage" s_Reader_stage
  rdF : PFun K D.rdr "fault" "Reader.fault" s_Reader_fault
  rdD : PFun K D.rdr "completed" "Reader.completed" s_Reader_completed
  Request_start_line : MFun K D.req "start_line" "Request.start_line" s_Request_start_line
  Request_body_allowed : MFun K D.req "body_allowed" "Request.body_allowed" s_Request_body_allowed
  Request_remade : MFun K D.req "remade" "Request.remade" s_Request_remade
  Response_start_line : MFun K D.rsp "start_line" "Response.start_line" s_Response_start_line
  Response_body_allowed : MFun K D.rsp "body_allowed" "Response.body_allowed" s_Response_body_allowed
  Response_remade : MFun K D.rsp "remade" "Response.remade" s_Response_remade
  tyC : ∀ b : Bool, PySem.W.findIn K (.ref (D.cls b)) "__class__" = some (some (.builtin "object.__class__")) ∧ PySem.W.specialIn K (.builtin "object.__class__") "__get__" = some (some (.builtin "getset_descriptor.__get__")) ∧ PySem.W.takesIn K (.builtin "object.__class__") = some true ∧ PySem.W.mroIn K (D.cls b) (.type "object") = some true
  isi : ∀ b c : Bool, PySem.W.kitOne K (.ref (D.cls b)) (.ref (D.cls c)) = some (b == c)
  Draft_finished_message : MFun K D.dft "finished_message" "Draft.finished_message" s_Draft_finished_message
  Reader_feed : MFun K D.rdr "feed" "Reader.feed" s_Reader_feed
  Reader_finish : MFun K D.rdr "finish" "Reader.finish" s_Reader_finish
  Reader_break_off : MFun K D.rdr "break_off" "Reader.break_off" s_Reader_break_off
  Reader_read_sign : MFun K D.rdr "read_sign" "Reader.read_sign" s_Reader_read_sign
  Reader_read_line : MFun K D.rdr "read_line" "Reader.read_line" s_Reader_read_line
  Reader_read_start_line : MFun K D.rdr "read_start_line" "Reader.read_start_line" s_Reader_read_start_line
  Reader_read_field_line : MFun K D.rdr "read_field_line" "Reader.read_field_line" s_Reader_read_field_line
  Reader_read_framing_line : MFun K D.rdr "read_framing_line" "Reader.read_framing_line" s_Reader_read_framing_line
  Reader_begin_body : MFun K D.rdr "begin_body" "Reader.begin_body" s_Reader_begin_body
  Reader_read_body_sign : MFun K D.rdr "read_body_sign" "Reader.read_body_sign" s_Reader_read_body_sign
  Reader_read_chunk_end : MFun K D.rdr "read_chunk_end" "Reader.read_chunk_end" s_Reader_read_chunk_end
  Reader_read_size_line : MFun K D.rdr "read_size_line" "Reader.read_size_line" s_Reader_read_size_line
  Reader_complete_message : MFun K D.rdr "complete_message" "Reader.complete_message" s_Reader_complete_message
end K6

set_option Elab.async false
set_option linter.all false
set_option maxRecDepth 100000
set_option maxHeartbeats 4000000
/-! KO4: the methods of messages, drafts. -/
namespace K6
open PySem PySem.Spec PyProof.Rows L2
def MsgAt (D : Ad) (b : Bool) (N : Addr → Prop) (H : Hp) (x : V) (args : List Tx) (fs : List Fld) (bd : Tx) : Prop := ∃ p dx L xs, x = .ref p ∧ N p ∧ N L ∧ H p = some (.ins (D.cls b) dx (msgF b args L bd)) ∧ H L = some (.lst xs) ∧ FldsAt H xs fs
theorem MsgAt.keep {D : Ad} {b : Bool} {N : Addr → Prop} {H H' : Hp} {x : V} {args : List Tx} {fs : List Fld} {bd : Tx} (h : MsgAt D b N H x args fs bd) (k : ∀ a o, H a = some o → N a → H' a = some o) (kt : ∀ a ys, H a = some (.tup ys) → H' a = some (.tup ys)) : MsgAt D b N H' x args fs bd := by
  obtain ⟨p, dx, L, xs, e, n1, n2, h1, h2, h3⟩ := h
  exact ⟨p, dx, L, xs, e, n1, n2, k _ _ h1 n1, k _ _ h2 n2, h3.mono kt⟩
theorem MsgAt.same {D : Ad} {b : Bool} {N : Addr → Prop} {H H' : Hp} {x : V} {args : List Tx} {fs : List Fld} {bd : Tx} (h : MsgAt D b N H x args fs bd) (s : Same H H') : MsgAt D b N H' x args fs bd := h.keep (fun a o e _ => s _ _ e) fun a ys e => s _ _ e
theorem MsgAt.weak {D : Ad} {b : Bool} {N N' : Addr → Prop} {H : Hp} {x : V} {args : List Tx} {fs : List Fld} {bd : Tx} (h : MsgAt D b N H x args fs bd) (s : ∀ a, N a → N' a) : MsgAt D b N' H x args fs bd := by
  obtain ⟨p, dx, L, xs, e, n1, n2, h1⟩ := h
  exact ⟨p, dx, L, xs, e, s _ n1, s _ n2, h1⟩
section
variable {P : Program} {w : World} {K : PySem.W.Frag} {mg : PySem.Str → Option Value} {base : Heap} {D : Ad}
def sp_start_line (b : Bool) (C : Addr) : Sp := fun vs H Q _ => ∃ (p dx L : Addr) (args : List Tx) (bd : Tx), vs = [.ref p] ∧ H p = some (.ins C dx (msgF b args L bd)) ∧ argsOk' b args ∧ Q (.str (S (startL b args))) H
theorem status_len {s : Tx} (h : s ∈ statusesT) : s.length ≤ 10 := by
  have : ∀ s ∈ statusesT, s.length ≤ 10 := by decide +kernel
  exact this s h
theorem method_len {s : Tx} (h : s ∈ methodsT) : s.length ≤ 10 := by
  have : ∀ s ∈ methodsT, s.length ≤ 10 := by decide +kernel
  exact this s h
theorem ok_Response_start_line (T : Txt K mg) (O : Obs P K mg D) : OkM P w K mg base CX0 D.rsp "start_line" 1 ["self"] (sp_start_line true D.rsp) := by
  obtain ⟨f, fd, hm, F⟩ := O.Response_start_line
  refine ⟨f, fd, hm, F.binds fun _ _ _ _ _ _ us hl => match us, hl with | [_], _ => rfl, F.ok sc_Response_start_line (fun vs H Q E h => ?_) (fun cdv A outer s H vs Q E hr h => ?_)⟩
  · obtain ⟨p, dx, L, args, bd, rfl, _⟩ := h
    rfl
  · obtain ⟨p, dx, L, args, bd, rfl, hp, ha, q⟩ := h
    match args, ha with
    | [m], ha =>
    have ha : m ∈ statusesT := ha
    have hl := status_len ha
    refine ⟨_, pss_one (ps_ret (pe_joined (PJ.cons pe_str (PJ.cons (pe_fmt (pe_fld (pv 0) rfl)) PJ.nil)))), ?_⟩
    have nS := O.rsN "status" (by simp)
    refine ⟨_, rfl, by decide +kernel, _, rfl, p, D.rsp, dx, _, sV m, rfl, hp, O.rsC, nS, lk_eq, .inl ⟨_, rfl, by rw [S_len]; exact Nat.le_trans hl (by decide), _, rfl, ?_, ?_⟩⟩
    · rw [str_len_app, S_len, show (PySem.Str.empty ++ PySem.Str.ofString "answer ").length = 7 from by decide +kernel]
      show 7 + m.length ≤ 16777216
      omega
    · have e : PySem.Str.empty ++ PySem.Str.ofString "answer " ++ S m = S (K6.T "answer " ++ m) := by rw [emp_S, S_T', S_app, S_app]; rfl
      show Q (.str (PySem.Str.empty ++ PySem.Str.ofString "answer " ++ S m)) H
      rw [e]
      exact q
theorem ok_Request_start_line (T : Txt K mg) (O : Obs P K mg D) : OkM P w K mg base CX0 D.req "start_line" 1 ["self"] (sp_start_line false D.req) := by
  obtain ⟨f, fd, hm, F⟩ := O.Request_start_line
  refine ⟨f, fd, hm, F.binds fun _ _ _ _ _ _ us hl => match us, hl with | [_], _ => rfl, F.ok sc_Request_start_line (fun vs H Q E h => ?_) (fun cdv A outer s H vs Q E hr h => ?_)⟩
  · obtain ⟨p, dx, L, args, bd, rfl, _⟩ := h
    rfl
  · obtain ⟨p, dx, L, args, bd, rfl, hp, ha, q⟩ := h
    match args, ha with
    | [m, pa], ⟨ha, hp1, hp2⟩ =>
    have hl := method_len ha
    refine ⟨_, pss_one (ps_ret (pe_joined (PJ.cons pe_str (PJ.cons (pe_fmt (pe_fld (pv 0) rfl)) (PJ.cons pe_str (PJ.cons (pe_fmt (pe_fld (pv 0) rfl)) PJ.nil)))))), ?_⟩
    have nM := O.rqN "method" (by simp)
    have nP := O.rqN "path" (by simp)
    have e0 : (PySem.Str.empty ++ PySem.Str.ofString "ask ").length = 4 := by decide +kernel
    have e1 : (PySem.Str.ofString " ").length = 1 := by decide +kernel
    refine ⟨_, rfl, by decide +kernel, _, rfl, p, D.req, dx, _, sV m, rfl, hp, O.rqC, nM, lk_eq, .inl ⟨_, rfl, by rw [S_len]; exact Nat.le_trans hl (by decide), _, rfl, ?_, ?_⟩⟩
    · rw [str_len_app, S_len, e0]
      show 4 + m.length ≤ 16777216
      omega
    · refine ⟨_, rfl, ?_, _, rfl, p, D.req, dx, _, sV pa, rfl, hp, O.rqC, nP, (lk_ne (by decide +kernel)).trans lk_eq, .inl ⟨_, rfl, by rw [S_len]; exact Nat.le_trans hp2 (by decide), _, rfl, ?_, ?_⟩⟩
      · rw [str_len_app, str_len_app, S_len, e0, e1]
        show 4 + m.length + 1 ≤ 16777216
        omega
      · rw [str_len_app, str_len_app, str_len_app, S_len, S_len, e0, e1]
        show 4 + m.length + 1 + pa.length ≤ 16777216
        omega
      · have e : PySem.Str.empty ++ PySem.Str.ofString "ask " ++ S m ++ PySem.Str.ofString " " ++ S pa = S (K6.T "ask " ++ (m ++ (K6.T " " ++ pa))) := by
          rw [emp_S, S_T' "ask ", S_T' " ", S_app, S_app, S_app, S_app]
          simp
        show Q (.str (PySem.Str.empty ++ PySem.Str.ofString "ask " ++ S m ++ PySem.Str.ofString " " ++ S pa)) H
        rw [e]
        exact q
theorem ok_Request_body_allowed (T : Txt K mg) (O : Obs P K mg D) : OkM P w K mg base CX0 D.req "body_allowed" 1 ["self"] (sp_ba false D.req) := by
  obtain ⟨f, fd, hm, F⟩ := O.Request_body_allowed
  refine ⟨f, fd, hm, F.binds fun _ _ _ _ _ _ us hl => match us, hl with | [_], _ => rfl, F.ok sc_Request_body_allowed (fun vs H Q E h => ?_) (fun cdv A outer s H vs Q E hr h => ?_)⟩
  · obtain ⟨p, dx, fs, a, rfl, _⟩ := h
    rfl
  · obtain ⟨p, dx, fs, a, rfl, hp, hk, q⟩ := h
    refine ⟨_, pss_one (ps_ret (pe_cmpR op_eq (pe_fld (pv 0) rfl) pe_str (nomark _))), ?_⟩
    refine ⟨_, rfl, p, D.req, dx, _, sV a, rfl, hp, O.rqC, O.rqN "method" (by simp), hk, rfl, ?_⟩
    have e : decide (sV a = V.str (PySem.Str.ofString "put")) = mayA false a := dec_T a "put"
    show Q (.bl (decide (sV a = V.str (PySem.Str.ofString "put")))) H
    rw [e]
    exact q _ same_refl
theorem ok_Response_body_allowed (T : Txt K mg) (O : Obs P K mg D) : OkM P w K mg base CX0 D.rsp "body_allowed" 1 ["self"] (sp_ba true D.rsp) := by
  obtain ⟨f, fd, hm, F⟩ := O.Response_body_allowed
  refine ⟨f, fd, hm, F.binds fun _ _ _ _ _ _ us hl => match us, hl with | [_], _ => rfl, F.ok sc_Response_body_allowed (fun vs H Q E h => ?_) (fun cdv A outer s H vs Q E hr h => ?_)⟩
  · obtain ⟨p, dx, fs, a, rfl, _⟩ := h
    rfl
  · obtain ⟨p, dx, fs, a, rfl, hp, hk, q⟩ := h
    refine ⟨_, pss_one (ps_ret (pe_cmpR op_notIn_seq (pe_fld (pv 0) rfl) (pe_tup (pa_cons pe_str (pa_cons pe_str pa_nil))) (by rfl))), ?_⟩
    refine ⟨_, rfl, p, D.rsp, dx, _, sV a, rfl, hp, O.rsC, O.rsN "status" (by simp), hk, by show 2 ≤ sizeLine; decide, fun t ht => ⟨t, _, rfl, .inr (SqT.of upd_same), rfl, rfl, ?_⟩⟩
    have e : inV (sV a) [str "same", str "done"] = decide (a ∈ [K6.T "same", K6.T "done"]) := inV_str a [K6.T "same", K6.T "done"]
    show Q (.bl (!inV (sV a) [str "same", str "done"])) _
    rw [e]
    have e2 : (!decide (a ∈ [K6.T "same", K6.T "done"])) = mayA true a := by
      unfold mayA
      by_cases h1 : a = K6.T "same"
      · simp [h1]
      · by_cases h2 : a = K6.T "done"
        · simp [h2]
        · simp [h1, h2]
    rw [e2]
    exact q _ (same_new ht)
theorem ok_body_allowed (T : Txt K mg) (O : Obs P K mg D) (b : Bool) : OkM P w K mg base CX0 (D.cls b) "body_allowed" 1 ["self"] (sp_ba b (D.cls b)) := by
  cases b
  · exact ok_Request_body_allowed T O
  · exact ok_Response_body_allowed T O
theorem ok_start_line (T : Txt K mg) (O : Obs P K mg D) (b : Bool) : OkM P w K mg base CX0 (D.cls b) "start_line" 1 ["self"] (sp_start_line b (D.cls b)) := by
  cases b
  · exact ok_Request_start_line T O
  · exact ok_Response_start_line T O
theorem clsC (O : Obs P K mg D) (b : Bool) : Cls K (D.cls b) := by
  cases b
  · exact O.rqC
  · exact O.rsC
theorem sup_binds {qual : PySem.Str} {st : Stmt} {C f cda cc : Addr} {fd : FuncData} {ps : List PySem.Str} {dvs : List V} (S : SupF P K qual st C f cda cc fd) (hD : DflV K fd.defaults dvs) (n j : Nat) (hd : dvs ≠ []) (hn : n + (dvs.length - j) = ps.length)
    (h : ∀ (T : Addr) (kV doc pm : Value) (an : Option Addr) (ct : Value) (us its : List Value), us.length = n → its.length = dvs.length →
      ∃ k, bindArgs (PySem.W.ksFn "__init__" qual (defArgs st) (defBody st) (defScope st) (.ref T) kV doc pm an (.ref cda) ct cc) ⟨us, []⟩ = seqItems? (.ref T) >>= k ∧ k (some its.toArray) = pure (ps.zip (us ++ its.drop j))) : ∃ ds, Vals (dvs.drop j) ds ∧ Binds K fd ps ds := by
  obtain ⟨oc, od, dV, kV, doc, pm, an, ct, osl, rfl, lk⟩ := S.ex
  rcases hD with ⟨e, _⟩ | ⟨_, T, o, its, m, e, lT, oT, rT⟩
  · exact absurd e hd
  · have e : dV = .ref T := e
    subst e
    refine ⟨its.drop j, rT.drop j, fun s us X hlen => ?_⟩
    have l1 : its.length = dvs.length := rT.length.symm
    have l2 : us.length = n := by
      rw [List.length_append, List.length_drop, l1] at hlen
      omega
    obtain ⟨k, e1, e2⟩ := h T kV doc pm an ct us its l2 l1
    refine BindsTo.of_looks fun M => ?_
    rw [e1]
    exact looks_items X lT oT (.of_pure e2)
/-- the maker of a message, and how it is called -/
theorem ok_init (T : Txt K mg) (O : Obs P K mg D) (b lst : Bool) : ∃ (f : Addr) (fd : FuncData), Mk K (D.cls b) f ∧ FnOk P w K mg base CX0 6 f fd (if b = true then ["self", "status", "fields", "body"] else ["self", "method", "path", "fields", "body"]) (sp_init K b (D.cls b) lst) ∧
    Binds K fd (if b = true then ["self", "status", "fields", "body"] else ["self", "method", "path", "fields", "body"]) [] ∧
    ∃ e ds, (∀ H, SqT K H e []) ∧ Vals [.ref e, str ""] ds ∧ Binds K fd (if b = true then ["self", "status", "fields", "body"] else ["self", "method", "path", "fields", "body"]) ds := by
  cases b with
  | false =>
    obtain ⟨f, cda, cc, g, e, fd, fd2, S, M, SC, F2, dfl, he⟩ := O.rqI
    have bG : Binds K fd2 ["self", "fields", "body"] [] := F2.binds fun _ _ _ _ _ _ us hl => match us, hl with | [_, _, _], _ => rfl
    have G : FnOk P w K mg base CX0 5 g fd2 ["self", "fields", "body"] (sp_minit K false D.req lst) := by
      cases lst
      · exact ok_minit_t T F2 O.rqC (O.rqN "fields" (by simp)) (O.rqN "body" (by simp)) (ok_Request_body_allowed T O)
      · exact ok_minit_l T F2 O.rqC (O.rqN "fields" (by simp)) (O.rqN "body" (by simp)) (ok_Request_body_allowed T O)
    have b1 := sup_binds (ps := ["self", "method", "path", "fields", "body"]) S dfl 3 0 (by simp) rfl (fun _ _ _ _ _ _ us its hl hi => match us, hl, its, hi with | [_, _, _], _, [_, _], _ => ⟨_, rfl, rfl⟩)
    have b2 := sup_binds (ps := ["self", "method", "path", "fields", "body"]) S dfl 5 2 (by simp) rfl (fun _ _ _ _ _ _ us its hl hi => match us, hl, its, hi with | [_, _, _, _, _], _, [_, _], _ => ⟨_, rfl, rfl⟩)
    obtain ⟨ds1, v1, b1⟩ := b1
    obtain ⟨ds2, v2, b2⟩ := b2
    cases v2
    exact ⟨f, fd, M, ok_rinit T S SC G bG O.rqC (O.rqN "method" (by simp)) (O.rqN "path" (by simp)), b2, e, ds1, he, v1, b1⟩
  | true =>
    obtain ⟨f, cda, cc, g, e, fd, fd2, S, M, SC, F2, dfl, he⟩ := O.rsI
    have bG : Binds K fd2 ["self", "fields", "body"] [] := F2.binds fun _ _ _ _ _ _ us hl => match us, hl with | [_, _, _], _ => rfl
    have G : FnOk P w K mg base CX0 5 g fd2 ["self", "fields", "body"] (sp_minit K true D.rsp lst) := by
      cases lst
      · exact ok_minit_t T F2 O.rsC (O.rsN "fields" (by simp)) (O.rsN "body" (by simp)) (ok_Response_body_allowed T O)
      · exact ok_minit_l T F2 O.rsC (O.rsN "fields" (by simp)) (O.rsN "body" (by simp)) (ok_Response_body_allowed T O)
    have b1 := sup_binds (ps := ["self", "status", "fields", "body"]) S dfl 2 0 (by simp) rfl (fun _ _ _ _ _ _ us its hl hi => match us, hl, its, hi with | [_, _], _, [_, _], _ => ⟨_, rfl, rfl⟩)
    have b2 := sup_binds (ps := ["self", "status", "fields", "body"]) S dfl 4 2 (by simp) rfl (fun _ _ _ _ _ _ us its hl hi => match us, hl, its, hi with | [_, _, _, _], _, [_, _], _ => ⟨_, rfl, rfl⟩)
    obtain ⟨ds1, v1, b1⟩ := b1
    obtain ⟨ds2, v2, b2⟩ := b2
    cases v2
    exact ⟨f, fd, M, ok_sinit T S SC G bG O.rsC (O.rsN "status" (by simp)), b2, e, ds1, he, v1, b1⟩
end
end K6

set_option Elab.async false
set_option linter.all false
set_option maxRecDepth 100000
set_option maxHeartbeats 4000000
/-! KO5: messages made anew, drafts. -/
namespace K6
open PySem PySem.Spec PyProof.Rows L2
section
variable {P : Program} {w : World} {K : PySem.W.Frag} {mg : PySem.Str → Option Value} {base : Heap} {D : Ad}
def sp_remade (D : Ad) (b : Bool) : Sp := fun vs H Q _ => ∃ (p dx L la : Addr) (args : List Tx) (bd0 bd : Tx) (xs : List V) (fs : List Fld), vs = [.ref p, .ref la, sV bd] ∧ H p = some (.ins (D.cls b) dx (msgF b args L bd0)) ∧ argsOk' b args ∧ H la = some (.lst xs) ∧ FldsAt H xs fs ∧
  fs.length ≤ 40 ∧ FsOk fs ∧ isBodyT bd = true ∧ (bd = [] ∨ mayA b (args.headD []) = true) ∧ ∀ H' x, Same H H' → MsgAt D b (fun a => H a = none) H' x args fs bd → Q x H'
/-- behind the making of an instance -/
theorem made_same {H H' : Hp} {x dx C : Addr} (nx : H x = none) (nd : H dx = none) (k : Kp1 x (upd (upd H dx (.own x)) x (.ins C dx [])) H') : Same H H' := fun c o e => by
  have h1 := ne_of_none e nx
  have h2 := ne_of_none e nd
  exact k c o (by rw [upd_ne h1, upd_ne h2]; exact e) h1
theorem made_none {H : Hp} {x dx C L : Addr} (n : (upd (upd H dx (.own x)) x (.ins C dx [])) L = none) : H L = none := by
  by_cases h1 : L = x
  · rw [h1, upd_same] at n; cases n
  · by_cases h2 : L = dx
    · rw [upd_ne h1, h2, upd_same] at n; cases n
    · rwa [upd_ne h1, upd_ne h2] at n
theorem made_old {H : Hp} {x dx C : Addr} (nx : H x = none) (nd : H dx = none) : Same H (upd (upd H dx (.own x)) x (.ins C dx [])) := fun c o e => by
  rw [upd_ne (ne_of_none e nx), upd_ne (ne_of_none e nd)]
  exact e
theorem msg_made {b : Bool} {H : Hp} {x dx : Addr} {args : List Tx} {fs : List Fld} {bd : Tx} {Q : VK} (nx : H x = none) (nd : H dx = none) (q : ∀ H' x, Same H H' → MsgAt D b (fun a => H a = none) H' x args fs bd → Q x H') :
    ∀ H' L ys, Kp1 x (upd (upd H dx (.own x)) x (.ins (D.cls b) dx [])) H' → (upd (upd H dx (.own x)) x (.ins (D.cls b) dx [])) L = none → H' x = some (.ins (D.cls b) dx (msgF b args L bd)) → H' L = some (.lst ys) → FldsAt H' ys fs → (V.non = .non ∧ Q (.ref x) H') :=
  fun H' L ys k n h1 h2 h3 => ⟨rfl, q H' (.ref x) (made_same nx nd k) ⟨x, dx, L, ys, rfl, nx, made_none n, h1, h2, h3⟩⟩
theorem ok_Request_remade (T : Txt K mg) (O : Obs P K mg D) : OkM P w K mg base CX0 D.req "remade" 8 ["self", "fields", "body"] (sp_remade D false) := by
  obtain ⟨f, fd, hm, F⟩ := O.Request_remade
  refine ⟨f, fd, hm, F.binds fun _ _ _ _ _ _ us hl => match us, hl with | [_, _, _], _ => rfl, F.ok sc_Request_remade (fun vs H Q E h => ?_) (fun cdv A outer s H vs Q E hr h => ?_)⟩
  · obtain ⟨p, dx, L, la, args, bd0, bd, xs, fs, rfl, _⟩ := h
    rfl
  · obtain ⟨p, dx, L, la, args, bd0, bd, xs, fs, rfl, hp, ha, hla, hfs, hn, hok, hbd, hmay, q⟩ := h
    obtain ⟨f', fd', M, G, b2, _⟩ := ok_init (P := P) (w := w) (base := base) T O false true
    match args, ha with
    | [m, pa], ha =>
    refine ⟨_, pss_one (ps_ret (pe_make M G hr rfl O.rq b2 .nil pass0 (pa_cons (pe_fld (pv 0) rfl) (pa_cons (pe_fld (pv 0) rfl) (pa_cons (pv 1) (pa_cons (pv 2) pa_nil)))))), ?_⟩
    refine ⟨_, rfl, p, D.req, dx, _, sV m, rfl, hp, O.rqC, O.rqN "method" (by simp), lk_eq, _, rfl, p, D.req, dx, _, sV pa, rfl, hp, O.rqC, O.rqN "path" (by simp), (lk_ne (by decide +kernel)).trans lk_eq, _, rfl, _, rfl, fun x dx2 nx nd nex => ?_⟩
    have s1 := made_old (C := D.req) nx nd
    exact ⟨x, dx2, la, [m, pa], bd, xs, fs, rfl, ha, upd_same, s1 _ _ hla, (fun _ z => by rw [z] at hla; rw [nx] at hla; cases hla), hfs.mono fun c ys e => s1 _ _ e, hn, hok, hbd, hmay, msg_made (b := false) nx nd q⟩
theorem ok_Response_remade (T : Txt K mg) (O : Obs P K mg D) : OkM P w K mg base CX0 D.rsp "remade" 8 ["self", "fields", "body"] (sp_remade D true) := by
  obtain ⟨f, fd, hm, F⟩ := O.Response_remade
  refine ⟨f, fd, hm, F.binds fun _ _ _ _ _ _ us hl => match us, hl with | [_, _, _], _ => rfl, F.ok sc_Response_remade (fun vs H Q E h => ?_) (fun cdv A outer s H vs Q E hr h => ?_)⟩
  · obtain ⟨p, dx, L, la, args, bd0, bd, xs, fs, rfl, _⟩ := h
    rfl
  · obtain ⟨p, dx, L, la, args, bd0, bd, xs, fs, rfl, hp, ha, hla, hfs, hn, hok, hbd, hmay, q⟩ := h
    obtain ⟨f', fd', M, G, b2, _⟩ := ok_init (P := P) (w := w) (base := base) T O true true
    match args, ha with
    | [m], ha =>
    refine ⟨_, pss_one (ps_ret (pe_make M G hr rfl O.rs b2 .nil pass0 (pa_cons (pe_fld (pv 0) rfl) (pa_cons (pv 1) (pa_cons (pv 2) pa_nil))))), ?_⟩
    refine ⟨_, rfl, p, D.rsp, dx, _, sV m, rfl, hp, O.rsC, O.rsN "status" (by simp), lk_eq, _, rfl, _, rfl, fun x dx2 nx nd nex => ?_⟩
    have s1 := made_old (C := D.rsp) nx nd
    exact ⟨x, dx2, la, [m], bd, xs, fs, rfl, ha, upd_same, s1 _ _ hla, (fun _ z => by rw [z] at hla; rw [nx] at hla; cases hla), hfs.mono fun c ys e => s1 _ _ e, hn, hok, hbd, hmay, msg_made (b := true) nx nd q⟩
theorem ok_remade (T : Txt K mg) (O : Obs P K mg D) (b : Bool) : OkM P w K mg base CX0 (D.cls b) "remade" 8 ["self", "fields", "body"] (sp_remade D b) := by
  cases b
  · exact ok_Request_remade T O
  · exact ok_Response_remade T O
/-- a property of a class keeps a promise -/
def OkP (P : Program) (w : World) (K : PySem.W.Frag) (mg : PySem.Str → Option Value) (base : Heap) (C : Addr) (x : PySem.Str) (k : Nat) (sp : Sp) : Prop := ∃ (p g : Addr) (fd : FuncData), PropOf K C x p g ∧ Binds K fd ["self"] [] ∧ FnOk P w K mg base CX0 k g fd ["self"] sp
theorem pe_propO {X : Cx} {C : Addr} {x : PySem.Str} {j k : Nat} {sp : Sp} {e : Expr} {ta : TE} {pos : Pos} (O : OkP X.prog X.w X.K X.mg X.base C x j sp) (he : PE X e ta) (c : Cls X.K C) (hr : Room k X.A) (hj : j + 1 ≤ k := by decide)
    (hab : attributeBase e x X.env (eval e X.env) = eval e X.env := by rfl) : PE X (.Attribute e x pos) (tProp C sp [] E0 ta) := by
  obtain ⟨p, g, fd, h1, h2, h3⟩ := O
  exact pe_prop he c h1 h3 (hr.mono hj) h2 .nil pass0 hab
def sp_start (b : Bool) (C : Addr) : Sp := fun vs H Q _ => ∃ (p dx L : Addr) (args : List Tx) (bd : Tx), vs = [.ref p] ∧ H p = some (.ins C dx (msgF b args L bd)) ∧ argsOk' b args ∧ Q (.str (S (startL b args))) H
theorem msg_no {b : Bool} {args : List Tx} {L : Addr} {bd : Tx} {k : PySem.Str} (ha : argsOk' b args) (h : k ∉ (["status", "method", "path", "fields", "body"] : List PySem.Str)) : (msgF b args L bd).lookup k = none := by
  simp only [List.mem_cons, List.not_mem_nil, or_false, not_or] at h
  obtain ⟨h1, h2, h3, h4, h5⟩ := h
  unfold msgF
  match b, args, ha with
  | true, [s], _ => exact (lk_ne h1).trans ((lk_ne h4).trans ((lk_ne h5).trans rfl))
  | false, [m, p], _ => exact (lk_ne h2).trans ((lk_ne h3).trans ((lk_ne h4).trans ((lk_ne h5).trans rfl)))
theorem msg_key {b : Bool} {args : List Tx} {L : Addr} {bd : Tx} (ha : argsOk' b args) : (msgF b args L bd).lookup (keyOf b) = some (sV (args.headD [])) := by
  match b, args, ha with
  | true, [s], _ => exact lk_eq
  | false, [m, p], _ => exact lk_eq
theorem ok_start (T : Txt K mg) (O : Obs P K mg D) (b : Bool) : OkP P w K mg base (D.cls b) "start" 2 (sp_start b (D.cls b)) := by
  obtain ⟨p, g, fd, h1, F⟩ : PFun K (D.cls b) "start" "Message.start" s_Message_start := by
    cases b
    · exact O.rqS
    · exact O.rsS
  refine ⟨p, g, fd, h1, F.binds fun _ _ _ _ _ _ us hl => match us, hl with | [_], _ => rfl, F.ok sc_Message_start (fun vs H Q E h => ?_) (fun cdv A outer s H vs Q E hr h => ?_)⟩
  · obtain ⟨p, dx, L, args, bd, rfl, _⟩ := h
    rfl
  · obtain ⟨p, dx, L, args, bd, rfl, hp, ha, q⟩ := h
    refine ⟨_, pss_one (ps_ret (pe_methO0 (ok_start_line T O b) (pv 0) (clsC O b) hr)), ?_⟩
    exact ⟨_, rfl, p, dx, _, rfl, hp, msg_no ha (by decide +kernel), p, dx, L, args, bd, rfl, hp, ha, q⟩
def sp_may (b : Bool) (C : Addr) : Sp := fun vs H Q _ => ∃ (p dx L : Addr) (args : List Tx) (bd : Tx), vs = [.ref p] ∧ H p = some (.ins C dx (msgF b args L bd)) ∧ argsOk' b args ∧ ∀ H', Same H H' → Q (.bl (mayA b (args.headD []))) H'
theorem ok_may (T : Txt K mg) (O : Obs P K mg D) (b : Bool) : OkP P w K mg base (D.cls b) "may_have_body" 2 (sp_may b (D.cls b)) := by
  obtain ⟨p, g, fd, h1, F⟩ : PFun K (D.cls b) "may_have_body" "Message.may_have_body" s_Message_may_have_body := by
    cases b
    · exact O.rqM
    · exact O.rsM
  refine ⟨p, g, fd, h1, F.binds fun _ _ _ _ _ _ us hl => match us, hl with | [_], _ => rfl, F.ok sc_Message_may_have_body (fun vs H Q E h => ?_) (fun cdv A outer s H vs Q E hr h => ?_)⟩
  · obtain ⟨p, dx, L, args, bd, rfl, _⟩ := h
    rfl
  · obtain ⟨p, dx, L, args, bd, rfl, hp, ha, q⟩ := h
    refine ⟨_, pss_one (ps_ret (pe_methO0 (ok_body_allowed T O b) (pv 0) (clsC O b) hr)), ?_⟩
    exact ⟨_, rfl, p, dx, _, rfl, hp, msg_no ha (by decide +kernel), p, dx, _, _, rfl, hp, msg_key ha, q⟩
def sp_empty (D : Ad) : Sp := fun vs H Q _ => ∃ (b : Bool) (t : Addr) (args : List Tx), vs = [sideV b, .ref t] ∧ argsOk' b args ∧ H t = some (.tup (args.map sV)) ∧ ∀ H' x, Same H H' → MsgAt D b (fun a => H a = none) H' x args [] [] → Q x H'
theorem ok_empty_message (T : Txt K mg) (O : Obs P K mg D) : Ok P w K mg base CX0 "empty_message" 8 ["side", "words"] (sp_empty D) := by
  obtain ⟨f, fd, hm, F⟩ := T.empty_message
  refine ⟨f, fd, hm, F.kp, F.binds fun _ _ _ _ _ _ us hl => match us, hl with | [_, _], _ => rfl, F.ok sc_empty_message (fun vs H Q E h => ?_) (fun cdv A outer s H vs Q E hr h => ?_)⟩
  · obtain ⟨b, t, args, rfl, _⟩ := h
    rfl
  · obtain ⟨b, t, args, rfl, ha, ht, q⟩ := h
    obtain ⟨f0, fd0, M0, G0, _, e0, ds0, he0, v0, b0⟩ := ok_init (P := P) (w := w) (base := base) T O false false
    obtain ⟨f1, fd1, M1, G1, _, e1, ds1, he1, v1, b1⟩ := ok_init (P := P) (w := w) (base := base) T O true false
    refine ⟨_, pss_cons (ps_if (pt_cmpR op_eq (pv 0) pe_str (nomark _)) (pss_one (ps_ret (pe_make M0 G0 hr rfl O.rq b0 v0 pass0 (pa_cons (pe_ix ix_tup (pv 1) pe_int (fun _ _ => rfl)) (pa_cons (pe_ix ix_tup (pv 1) pe_int (fun _ _ => rfl)) pa_nil))))) pss_nil) (pss_one (ps_ret (pe_make M1 G1 hr rfl O.rs b1 v1 pass0 (pa_cons (pe_ix ix_tup (pv 1) pe_int (fun _ _ => rfl)) pa_nil)))), ?_⟩
    refine ⟨_, rfl, by cases b <;> rfl, _, rfl, ?_⟩
    rw [side_asks]
    have hbe : isBodyT [] = true := by decide +kernel
    cases b with
    | false =>
      match args, ha with
      | [m, pa], ha =>
      refine iteT ⟨_, rfl, t, _, _, _, rfl, rfl, SqT.of ht, atI_nat (j := 0) rfl, _, rfl, t, _, _, _, rfl, rfl, SqT.of ht, atI_nat (j := 1) rfl, fun x dx2 nx nd nex => ?_⟩
      exact ⟨x, dx2, e0, [m, pa], [], [], [], rfl, ha, upd_same, he0, (fun z => by cases z), .nil, by decide, (fun f hf => nomatch hf), hbe, .inl rfl, msg_made (b := false) nx nd q⟩
    | true =>
      match args, ha with
      | [m], ha =>
      refine iteF ⟨_, rfl, t, _, _, _, rfl, rfl, SqT.of ht, atI_nat (j := 0) rfl, fun x dx2 nx nd nex => ?_⟩
      exact ⟨x, dx2, e1, [m], [], [], [], rfl, ha, upd_same, he1, (fun z => by cases z), .nil, by decide, (fun f hf => nomatch hf), hbe, .inl rfl, msg_made (b := true) nx nd q⟩
end
end K6

set_option Elab.async false
set_option linter.all false
set_option maxRecDepth 100000
set_option maxHeartbeats 4000000
/-! KO6: drafts and readers in the heap. -/
namespace K6
open PySem PySem.Spec PyProof.Rows L2
def dftF (bl : V) (la : Addr) (fr : V) (op : Bool) (ls : Addr) (du : Int) : List (PySem.Str × V) := [("blank", bl), ("fields", .ref la), ("framing_value", fr), ("open_ended", .bl op), ("body_signs", .ref ls), ("signs_due", .int du)]
theorem dft_blank {bl : V} {la : Addr} {fr : V} {op : Bool} {ls : Addr} {du : Int} : (dftF bl la fr op ls du).lookup ("blank" : PySem.Str) = some (bl) := lk_eq
theorem dft_put_blank {bl : V} {la : Addr} {fr : V} {op : Bool} {ls : Addr} {du : Int} {bl' : V} : putF "blank" (bl') (dftF bl la fr op ls du) = dftF bl' la fr op ls du := pt_eq
theorem dft_fields {bl : V} {la : Addr} {fr : V} {op : Bool} {ls : Addr} {du : Int} : (dftF bl la fr op ls du).lookup ("fields" : PySem.Str) = some (.ref la) := (lk_ne (by decide +kernel)).trans (lk_eq)
theorem dft_put_fields {bl : V} {la : Addr} {fr : V} {op : Bool} {ls : Addr} {du : Int} {la' : Addr} : putF "fields" (.ref la') (dftF bl la fr op ls du) = dftF bl la' fr op ls du := (pt_ne (by decide +kernel)).trans (congrArg (List.cons _) (pt_eq))
theorem dft_framing_value {bl : V} {la : Addr} {fr : V} {op : Bool} {ls : Addr} {du : Int} : (dftF bl la fr op ls du).lookup ("framing_value" : PySem.Str) = some (fr) := (lk_ne (by decide +kernel)).trans ((lk_ne (by decide +kernel)).trans (lk_eq))
theorem dft_put_framing_value {bl : V} {la : Addr} {fr : V} {op : Bool} {ls : Addr} {du : Int} {fr' : V} : putF "framing_value" (fr') (dftF bl la fr op ls du) = dftF bl la fr' op ls du := (pt_ne (by decide +kernel)).trans (congrArg (List.cons _) ((pt_ne (by decide +kernel)).trans (congrArg (List.cons _) (pt_eq))))
theorem dft_open_ended {bl : V} {la : Addr} {fr : V} {op : Bool} {ls : Addr} {du : Int} : (dftF bl la fr op ls du).lookup ("open_ended" : PySem.Str) = some (.bl op) := (lk_ne (by decide +kernel)).trans ((lk_ne (by decide +kernel)).trans ((lk_ne (by decide +kernel)).trans (lk_eq)))
theorem dft_put_open_ended {bl : V} {la : Addr} {fr : V} {op : Bool} {ls : Addr} {du : Int} {op' : Bool} : putF "open_ended" (.bl op') (dftF bl la fr op ls du) = dftF bl la fr op' ls du := (pt_ne (by decide +kernel)).trans (congrArg (List.cons _) ((pt_ne (by decide +kernel)).trans (congrArg (List.cons _) ((pt_ne (by decide +kernel)).trans (congrArg (List.cons _) (pt_eq))))))
theorem dft_body_signs {bl : V} {la : Addr} {fr : V} {op : Bool} {ls : Addr} {du : Int} : (dftF bl la fr op ls du).lookup ("body_signs" : PySem.Str) = some (.ref ls) := (lk_ne (by decide +kernel)).trans ((lk_ne (by decide +kernel)).trans ((lk_ne (by decide +kernel)).trans ((lk_ne (by decide +kernel)).trans (lk_eq))))
theorem dft_put_body_signs {bl : V} {la : Addr} {fr : V} {op : Bool} {ls : Addr} {du : Int} {ls' : Addr} : putF "body_signs" (.ref ls') (dftF bl la fr op ls du) = dftF bl la fr op ls' du := (pt_ne (by decide +kernel)).trans (congrArg (List.cons _) ((pt_ne (by decide +kernel)).trans (congrArg (List.cons _) ((pt_ne (by decide +kernel)).trans (congrArg (List.cons _) ((pt_ne (by decide +kernel)).trans (congrArg (List.cons _) (pt_eq))))))))
theorem dft_signs_due {bl : V} {la : Addr} {fr : V} {op : Bool} {ls : Addr} {du : Int} : (dftF bl la fr op ls du).lookup ("signs_due" : PySem.Str) = some (.int du) := (lk_ne (by decide +kernel)).trans ((lk_ne (by decide +kernel)).trans ((lk_ne (by decide +kernel)).trans ((lk_ne (by decide +kernel)).trans ((lk_ne (by decide +kernel)).trans (lk_eq)))))
theorem dft_put_signs_due {bl : V} {la : Addr} {fr : V} {op : Bool} {ls : Addr} {du : Int} {du' : Int} : putF "signs_due" (.int du') (dftF bl la fr op ls du) = dftF bl la fr op ls du' := (pt_ne (by decide +kernel)).trans (congrArg (List.cons _) ((pt_ne (by decide +kernel)).trans (congrArg (List.cons _) ((pt_ne (by decide +kernel)).trans (congrArg (List.cons _) ((pt_ne (by decide +kernel)).trans (congrArg (List.cons _) ((pt_ne (by decide +kernel)).trans (congrArg (List.cons _) (pt_eq))))))))))
theorem dft_no {bl : V} {la : Addr} {fr : V} {op : Bool} {ls : Addr} {du : Int} {k : PySem.Str} (h : k ∉ (["blank", "fields", "framing_value", "open_ended", "body_signs", "signs_due"] : List PySem.Str)) : (dftF bl la fr op ls du).lookup k = none := by
  simp only [List.mem_cons, List.not_mem_nil, or_false, not_or] at h
  obtain ⟨h0, h1, h2, h3, h4, h5⟩ := h
  exact (lk_ne h0).trans ((lk_ne h1).trans ((lk_ne h2).trans ((lk_ne h3).trans ((lk_ne h4).trans ((lk_ne h5).trans (rfl))))))
def rdrF (sd : V) (sg : V) (fx : V) (dn : Int) (rd : Int) (ln : Tx) (dv : V) (en : Bool) : List (PySem.Str × V) := [("stream_side", sd), ("stage_name", sg), ("fault_found", fx), ("messages_done", .int dn), ("signs_read", .int rd), ("unfinished_line", .str (S ln)), ("draft", dv), ("stream_ended", .bl en)]
theorem rdr_stream_side {sd : V} {sg : V} {fx : V} {dn : Int} {rd : Int} {ln : Tx} {dv : V} {en : Bool} : (rdrF sd sg fx dn rd ln dv en).lookup ("stream_side" : PySem.Str) = some (sd) := lk_eq
theorem rdr_put_stream_side {sd : V} {sg : V} {fx : V} {dn : Int} {rd : Int} {ln : Tx} {dv : V} {en : Bool} {sd' : V} : putF "stream_side" (sd') (rdrF sd sg fx dn rd ln dv en) = rdrF sd' sg fx dn rd ln dv en := pt_eq
theorem rdr_stage_name {sd : V} {sg : V} {fx : V} {dn : Int} {rd : Int} {ln : Tx} {dv : V} {en : Bool} : (rdrF sd sg fx dn rd ln dv en).lookup ("stage_name" : PySem.Str) = some (sg) := (lk_ne (by decide +kernel)).trans (lk_eq)
theorem rdr_put_stage_name {sd : V} {sg : V} {fx : V} {dn : Int} {rd : Int} {ln : Tx} {dv : V} {en : Bool} {sg' : V} : putF "stage_name" (sg') (rdrF sd sg fx dn rd ln dv en) = rdrF sd sg' fx dn rd ln dv en := (pt_ne (by decide +kernel)).trans (congrArg (List.cons _) (pt_eq))
theorem rdr_fault_found {sd : V} {sg : V} {fx : V} {dn : Int} {rd : Int} {ln : Tx} {dv : V} {en : Bool} : (rdrF sd sg fx dn rd ln dv en).lookup ("fault_found" : PySem.Str) = some (fx) := (lk_ne (by decide +kernel)).trans ((lk_ne (by decide +kernel)).trans (lk_eq))
theorem rdr_put_fault_found {sd : V} {sg : V} {fx : V} {dn : Int} {rd : Int} {ln : Tx} {dv : V} {en : Bool} {fx' : V} : putF "fault_found" (fx') (rdrF sd sg fx dn rd ln dv en) = rdrF sd sg fx' dn rd ln dv en := (pt_ne (by decide +kernel)).trans (congrArg (List.cons _) ((pt_ne (by decide +kernel)).trans (congrArg (List.cons _) (pt_eq))))
theorem rdr_messages_done {sd : V} {sg : V} {fx : V} {dn : Int} {rd : Int} {ln : Tx} {dv : V} {en : Bool} : (rdrF sd sg fx dn rd ln dv en).lookup ("messages_done" : PySem.Str) = some (.int dn) := (lk_ne (by decide +kernel)).trans ((lk_ne (by decide +kernel)).trans ((lk_ne (by decide +kernel)).trans (lk_eq)))
theorem rdr_put_messages_done {sd : V} {sg : V} {fx : V} {dn : Int} {rd : Int} {ln : Tx} {dv : V} {en : Bool} {dn' : Int} : putF "messages_done" (.int dn') (rdrF sd sg fx dn rd ln dv en) = rdrF sd sg fx dn' rd ln dv en := (pt_ne (by decide +kernel)).trans (congrArg (List.cons _) ((pt_ne (by decide +kernel)).trans (congrArg (List.cons _) ((pt_ne (by decide +kernel)).trans (congrArg (List.cons _) (pt_eq))))))
theorem rdr_signs_read {sd : V} {sg : V} {fx : V} {dn : Int} {rd : Int} {ln : Tx} {dv : V} {en : Bool} : (rdrF sd sg fx dn rd ln dv en).lookup ("signs_read" : PySem.Str) = some (.int rd) := (lk_ne (by decide +kernel)).trans ((lk_ne (by decide +kernel)).trans ((lk_ne (by decide +kernel)).trans ((lk_ne (by decide +kernel)).trans (lk_eq))))
theorem rdr_put_signs_read {sd : V} {sg : V} {fx : V} {dn : Int} {rd : Int} {ln : Tx} {dv : V} {en : Bool} {rd' : Int} : putF "signs_read" (.int rd') (rdrF sd sg fx dn rd ln dv en) = rdrF sd sg fx dn rd' ln dv en := (pt_ne (by decide +kernel)).trans (congrArg (List.cons _) ((pt_ne (by decide +kernel)).trans (congrArg (List.cons _) ((pt_ne (by decide +kernel)).trans (congrArg (List.cons _) ((pt_ne (by decide +kernel)).trans (congrArg (List.cons _) (pt_eq))))))))
theorem rdr_unfinished_line {sd : V} {sg : V} {fx : V} {dn : Int} {rd : Int} {ln : Tx} {dv : V} {en : Bool} : (rdrF sd sg fx dn rd ln dv en).lookup ("unfinished_line" : PySem.Str) = some (.str (S ln)) := (lk_ne (by decide +kernel)).trans ((lk_ne (by decide +kernel)).trans ((lk_ne (by decide +kernel)).trans ((lk_ne (by decide +kernel)).trans ((lk_ne (by decide +kernel)).trans (lk_eq)))))
theorem rdr_put_unfinished_line {sd : V} {sg : V} {fx : V} {dn : Int} {rd : Int} {ln : Tx} {dv : V} {en : Bool} {ln' : Tx} : putF "unfinished_line" (.str (S ln')) (rdrF sd sg fx dn rd ln dv en) = rdrF sd sg fx dn rd ln' dv en := (pt_ne (by decide +kernel)).trans (congrArg (List.cons _) ((pt_ne (by decide +kernel)).trans (congrArg (List.cons _) ((pt_ne (by decide +kernel)).trans (congrArg (List.cons _) ((pt_ne (by decide +kernel)).trans (congrArg (List.cons _) ((pt_ne (by decide +kernel)).trans (congrArg (List.cons _) (pt_eq))))))))))
theorem rdr_draft {sd : V} {sg : V} {fx : V} {dn : Int} {rd : Int} {ln : Tx} {dv : V} {en : Bool} : (rdrF sd sg fx dn rd ln dv en).lookup ("draft" : PySem.Str) = some (dv) := (lk_ne (by decide +kernel)).trans ((lk_ne (by decide +kernel)).trans ((lk_ne (by decide +kernel)).trans ((lk_ne (by decide +kernel)).trans ((lk_ne (by decide +kernel)).trans ((lk_ne (by decide +kernel)).trans (lk_eq))))))
theorem rdr_put_draft {sd : V} {sg : V} {fx : V} {dn : Int} {rd : Int} {ln : Tx} {dv : V} {en : Bool} {dv' : V} : putF "draft" (dv') (rdrF sd sg fx dn rd ln dv en) = rdrF sd sg fx dn rd ln dv' en := (pt_ne (by decide +kernel)).trans (congrArg (List.cons _) ((pt_ne (by decide +kernel)).trans (congrArg (List.cons _) ((pt_ne (by decide +kernel)).trans (congrArg (List.cons _) ((pt_ne (by decide +kernel)).trans (congrArg (List.cons _) ((pt_ne (by decide +kernel)).trans (congrArg (List.cons _) ((pt_ne (by decide +kernel)).trans (congrArg (List.cons _) (pt_eq))))))))))))
theorem rdr_stream_ended {sd : V} {sg : V} {fx : V} {dn : Int} {rd : Int} {ln : Tx} {dv : V} {en : Bool} : (rdrF sd sg fx dn rd ln dv en).lookup ("stream_ended" : PySem.Str) = some (.bl en) := (lk_ne (by decide +kernel)).trans ((lk_ne (by decide +kernel)).trans ((lk_ne (by decide +kernel)).trans ((lk_ne (by decide +kernel)).trans ((lk_ne (by decide +kernel)).trans ((lk_ne (by decide +kernel)).trans ((lk_ne (by decide +kernel)).trans (lk_eq)))))))
theorem rdr_put_stream_ended {sd : V} {sg : V} {fx : V} {dn : Int} {rd : Int} {ln : Tx} {dv : V} {en : Bool} {en' : Bool} : putF "stream_ended" (.bl en') (rdrF sd sg fx dn rd ln dv en) = rdrF sd sg fx dn rd ln dv en' := (pt_ne (by decide +kernel)).trans (congrArg (List.cons _) ((pt_ne (by decide +kernel)).trans (congrArg (List.cons _) ((pt_ne (by decide +kernel)).trans (congrArg (List.cons _) ((pt_ne (by decide +kernel)).trans (congrArg (List.cons _) ((pt_ne (by decide +kernel)).trans (congrArg (List.cons _) ((pt_ne (by decide +kernel)).trans (congrArg (List.cons _) ((pt_ne (by decide +kernel)).trans (congrArg (List.cons _) (pt_eq))))))))))))))
theorem rdr_no {sd : V} {sg : V} {fx : V} {dn : Int} {rd : Int} {ln : Tx} {dv : V} {en : Bool} {k : PySem.Str} (h : k ∉ (["stream_side", "stage_name", "fault_found", "messages_done", "signs_read", "unfinished_line", "draft", "stream_ended"] : List PySem.Str)) : (rdrF sd sg fx dn rd ln dv en).lookup k = none := by
  simp only [List.mem_cons, List.not_mem_nil, or_false, not_or] at h
  obtain ⟨h0, h1, h2, h3, h4, h5, h6, h7⟩ := h
  exact (lk_ne h0).trans ((lk_ne h1).trans ((lk_ne h2).trans ((lk_ne h3).trans ((lk_ne h4).trans ((lk_ne h5).trans ((lk_ne h6).trans ((lk_ne h7).trans (rfl))))))))
def DrAt (D : Ad) (b : Bool) (H : Hp) (r q la ls : Addr) (d : Dr) : Prop := ∃ dx bx dxb Lb xs, H q = some (.ins D.dft dx (dftF (.ref bx) la (frV d.frame) d.opn ls d.due)) ∧ H bx = some (.ins (D.cls b) dxb (msgF b (startArgs b d.start) Lb [])) ∧ H la = some (.lst xs) ∧ FldsAt H xs d.fields ∧
  H ls = some (.lst (d.signs.map fun c => sV [c])) ∧ la ≠ ls ∧ r ≠ q ∧ bx ≠ r ∧ bx ≠ q
def DrPart (D : Ad) (b : Bool) (H : Hp) (r : Addr) (F : List Addr) (dr : Option Dr) (dv : V) : Prop := (dr = none ∧ dv = .non ∧ F = [r]) ∨ ∃ d q la ls, dr = some d ∧ dv = .ref q ∧ F = [r, q, la, ls] ∧ DrAt D b H r q la ls d
def RdAt (D : Ad) (b e : Bool) (H : Hp) (r : Addr) (F : List Addr) (s : RS) : Prop := ∃ dx fx dv, H r = some (.ins D.rdr dx (rdrF (sideV b) (stgV s.stage) fx s.done s.read s.line dv e)) ∧ FltAt H fx s.fault ∧ DrPart D b H r F s.draft dv
/-- all but what F holds stands; what F' holds is F's or new -/
structure Fr' (F : List Addr) (H H' : Hp) (F' : List Addr) : Prop where
  keep : ∀ a o, H a = some o → a ∉ F → H' a = some o
  new : ∀ a ∈ F', a ∈ F ∨ H a = none
  has : ∀ a, H a ≠ none → H' a ≠ none
theorem Fr'.refl {F : List Addr} {H : Hp} : Fr' F H H F := ⟨fun _ _ e _ => e, fun a h => .inl h, fun _ h => h⟩
theorem Fr'.trans {F F1 F2 : List Addr} {H H1 H2 : Hp} (a : Fr' F H H1 F1) (b : Fr' F1 H1 H2 F2) : Fr' F H H2 F2 := by
  refine ⟨fun c o e n => ?_, fun c hc => ?_, fun c h => b.has c (a.has c h)⟩
  · have e1 := a.keep c o e n
    refine b.keep c o e1 fun hc => ?_
    rcases a.new c hc with h | h
    · exact n h
    · rw [e] at h; cases h
  · rcases b.new c hc with h | h
    · exact a.new c h
    · right
      cases hz : H c with
      | none => rfl
      | some z => exact absurd h (a.has c (by rw [hz]; simp))
theorem Fr'.same {F F1 : List Addr} {H H1 H2 : Hp} (a : Fr' F H H1 F1) (s : Same H1 H2) : Fr' F H H2 F1 :=
  ⟨fun c o e n => s _ _ (a.keep c o e n), a.new, fun c h => by
    have := a.has c h
    cases hz : H1 c with
    | none => exact absurd hz this
    | some z => rw [s _ _ hz]; simp⟩
theorem Fr'.put {F F1 : List Addr} {H H1 : Hp} {a : Addr} {o : HO} (h : Fr' F H H1 F1) (ha : a ∈ F ∨ H a = none) : Fr' F H (upd H1 a o) F1 := by
  refine ⟨fun c u e n => ?_, h.new, fun c hc => ?_⟩
  · have hne : c ≠ a := fun z => by
      rcases ha with ha | ha
      · exact n (z ▸ ha)
      · rw [← z, e] at ha; cases ha
    rw [upd_ne hne]
    exact h.keep c u e n
  · by_cases hca : c = a
    · rw [hca, upd_same]; simp
    · rw [upd_ne hca]
      exact h.has c hc
/-- a def's wish of a draft that is made a message -/
structure DrFin (b : Bool) (d : Dr) : Prop where
  args : argsOk' b (startArgs b d.start)
  mayE : mayA b ((startArgs b d.start).headD []) = mayT d.start
  many : d.fields.length ≤ 40
  fs : FsOk d.fields
  body : isBodyT d.signs = true
  may : d.signs = [] ∨ mayT d.start = true
theorem join_signs (t : Tx) : Txt.join (PySem.Str.ofString "") (t.map fun c => S [c]) = S t := by
  show PySem.Builtin.Str.glued (PySem.Str.ofString "") _ = _
  rw [StrLaws.glued_eq_join]
  have e0 : PySem.Str.ofString "" = S [] := rfl
  rw [e0]
  have key : ∀ t : Tx, Str.join (S []) (t.map fun c => S [c]) = S t := by
    intro t
    induction t with
    | nil => rfl
    | cons c r ih =>
      cases r with
      | nil => rfl
      | cons c2 r2 =>
        show S [c] ++ S [] ++ Str.join (S []) ((c2 :: r2).map fun c => S [c]) = _
        rw [ih, S_app, S_app]
        rfl
  exact key t
section
variable {P : Program} {w : World} {K : PySem.W.Frag} {mg : PySem.Str → Option Value} {base : Heap} {D : Ad} {b : Bool}
def sp_dinit (D : Ad) : Sp := fun vs H Q _ => ∃ (p dx : Addr) (x : V), vs = [.ref p, x] ∧ H p = some (.ins D.dft dx []) ∧ ∀ H' la ls, Kp1 p H H' → H la = none → H ls = none → la ≠ ls → H' p = some (.ins D.dft dx (dftF x la .non false ls 0)) → H' la = some (.lst []) → H' ls = some (.lst []) → Q .non H'
theorem ok_dinit (T : Txt K mg) (O : Obs P K mg D) : ∃ f fd, Mk K D.dft f ∧ Binds K fd ["self", "blank"] [] ∧ FnOk P w K mg base CX0 1 f fd ["self", "blank"] (sp_dinit D) := by
  obtain ⟨f, fd, M, F⟩ := O.dfI
  refine ⟨f, fd, M, F.binds fun _ _ _ _ _ _ us hl => match us, hl with | [_, _], _ => rfl, F.ok sc_Draft___init__ (fun vs H Q E h => ?_) (fun cdv A outer s H vs Q E hr h => ?_)⟩
  · obtain ⟨p, dx, x, rfl, _⟩ := h
    rfl
  · obtain ⟨p, dx, x, rfl, hp, q⟩ := h
    have N : ∀ f ∈ (["blank", "fields", "framing_value", "open_ended", "body_signs", "signs_due"] : List PySem.Str), NoAttr K D.dft f := O.dfN
    refine ⟨_, pss_cons (ps_fld (pv 0) (pv 1) rfl) (pss_cons (ps_fld (pv 0) (pe_lst pa_nil) rfl) (pss_cons (ps_fld (pv 0) pe_non rfl) (pss_cons (ps_fld (pv 0) pe_bl rfl) (pss_cons (ps_fld (pv 0) (pe_lst pa_nil) rfl) (pss_one (ps_fld (pv 0) pe_int rfl)))))), ?_⟩
    have few : ∀ (k : PySem.Str) (v : V) (fs : List (PySem.Str × V)), (putF k v fs).length ≤ fs.length + 1 := putF_len
    refine ⟨_, rfl, _, rfl, p, D.dft, dx, _, rfl, hp, O.dfC, N _ (by simp), by decide, ?_⟩
    refine ⟨by show 0 ≤ sizeLine; decide, fun la hla => ?_⟩
    have hpla : p ≠ la := fun z => by rw [z, upd_same] at hla; cases hla
    refine ⟨_, rfl, p, D.dft, dx, _, rfl, by rw [upd_ne hpla]; exact upd_same, O.dfC, N _ (by simp), by show 1 < 1000; decide, ?_⟩
    refine ⟨_, rfl, p, D.dft, dx, _, rfl, upd_same, O.dfC, N _ (by simp), by show 2 < 1000; decide, ?_⟩
    refine ⟨_, rfl, p, D.dft, dx, _, rfl, upd_same, O.dfC, N _ (by simp), by show 3 < 1000; decide, ?_⟩
    refine ⟨by show 0 ≤ sizeLine; decide, fun ls hls => ?_⟩
    have hpls : p ≠ ls := fun z => by rw [z, upd_same] at hls; cases hls
    have hll : la ≠ ls := fun z => by rw [← z, upd_ne hpla.symm, upd_ne hpla.symm, upd_ne hpla.symm, upd_same] at hls; cases hls
    refine ⟨_, rfl, p, D.dft, dx, _, rfl, by rw [upd_ne hpls]; exact upd_same, O.dfC, N _ (by simp), by show 4 < 1000; decide, ?_⟩
    refine ⟨_, rfl, p, D.dft, dx, _, rfl, upd_same, O.dfC, N _ (by simp), by show 5 < 1000; decide, ?_⟩
    have n1 : H la = none := by rw [upd_ne hpla.symm] at hla; exact hla
    have n2 : H ls = none := by rw [upd_ne hpls.symm, upd_ne hpls.symm, upd_ne hpls.symm, upd_ne hll.symm, upd_ne hpls.symm] at hls; exact hls
    refine q _ la ls (fun c o e hc => ?_) n1 n2 hll ?_ ?_ ?_
    · rw [upd_ne hc, upd_ne hc, upd_ne (ne_of_none e n2), upd_ne hc, upd_ne hc, upd_ne hc, upd_ne (ne_of_none e n1), upd_ne hc]
      exact e
    · exact upd_same
    · rw [upd_ne hpla.symm, upd_ne hpla.symm, upd_ne hll, upd_ne hpla.symm, upd_ne hpla.symm, upd_ne hpla.symm, upd_same]
    · rw [upd_ne hpls.symm, upd_ne hpls.symm, upd_same]
def sp_finished (D : Ad) (b : Bool) : Sp := fun vs H Q _ => ∃ (r q la ls : Addr) (d : Dr), vs = [.ref q] ∧ DrAt D b H r q la ls d ∧ DrFin b d ∧ ∀ H' x, Same H H' → MsgAt D b (fun a => H a = none) H' x (startArgs b d.start) d.fields d.signs → Q x H'
theorem ok_Draft_finished_message (T : Txt K mg) (O : Obs P K mg D) : OkM P w K mg base CX0 D.dft "finished_message" 9 ["self"] (sp_finished D b) := by
  obtain ⟨f, fd, hm, F⟩ := O.Draft_finished_message
  refine ⟨f, fd, hm, F.binds fun _ _ _ _ _ _ us hl => match us, hl with | [_], _ => rfl, F.ok sc_Draft_finished_message (fun vs H Q E h => ?_) (fun cdv A outer s H vs Q E hr h => ?_)⟩
  · obtain ⟨r, q, la, ls, d, rfl, _⟩ := h
    rfl
  · obtain ⟨r, q, la, ls, d, rfl, ⟨dx, bx, dxb, Lb, xs, h1, h2, h3, h4, h5, _⟩, fin, k⟩ := h
    have N : ∀ f ∈ (["blank", "fields", "framing_value", "open_ended", "body_signs", "signs_due"] : List PySem.Str), NoAttr K D.dft f := O.dfN
    refine ⟨_, pss_one (ps_ret (pe_methO (ok_remade T O b) (pe_fld (pv 0) rfl) (clsC O b) hr (pa_cons (pe_fld (pv 0) rfl) (pa_cons (pe_join pe_str (pe_fld (pv 0) rfl)) pa_nil)))), ?_⟩
    have hl := isBodyT_len fin.body
    have hs : (d.signs.map fun c => sV [c]) = (d.signs.map fun c => S [c]).map V.str := by rw [List.map_map]; rfl
    have hsum : ((d.signs.map fun c => S [c]).map (·.length)).sum = d.signs.length := by
      rw [List.map_map]
      show (d.signs.map fun _ => 1).sum = _
      induction d.signs with
      | nil => rfl
      | cons c r ih => rw [List.map_cons, List.sum_cons, ih, List.length_cons]; omega
    refine ⟨_, rfl, q, D.dft, dx, _, _, rfl, h1, O.dfC, N _ (by simp), dft_blank, bx, dxb, _, rfl, h2, msg_no fin.args (by decide +kernel), _, rfl, q, D.dft, dx, _, _, rfl, h1, O.dfC, N _ (by simp), dft_fields, ⟨_, rfl⟩, _, rfl, q, D.dft, dx, _, _, rfl, h1, O.dfC, N _ (by simp), dft_body_signs,
      _, ls, d.signs.map fun c => S [c], rfl, rfl, .inl (SqL.of (by rw [← hs]; exact h5)), ?_, ?_⟩
    · rw [hsum, show (PySem.Str.ofString "").length = 0 from by decide +kernel]
      omega
    · rw [join_signs]
      exact ⟨bx, dxb, Lb, la, startArgs b d.start, [], d.signs, xs, d.fields, rfl, h2, fin.args, h3, h4, fin.many, fin.fs, fin.body, fin.may.imp id fun z => by rw [fin.mayE]; exact z, k⟩
end
end K6

set_option Elab.async false
set_option linter.all false
set_option maxRecDepth 100000
set_option maxHeartbeats 4000000
/-! KO7: the reader's methods. -/
namespace K6
open PySem PySem.Spec PyProof.Rows L2
section
variable {D : Ad} {b : Bool}
theorem DrPart.mem {H : Hp} {r : Addr} {F : List Addr} {dr : Option Dr} {dv : V} (h : DrPart D b H r F dr dv) : r ∈ F := by
  rcases h with ⟨_, _, rfl⟩ | ⟨d, q, la, ls, _, _, rfl, _⟩ <;> simp
theorem DrAt.same {H H' : Hp} {r q la ls : Addr} {d : Dr} (h : DrAt D b H r q la ls d) (s : Same H H') : DrAt D b H' r q la ls d := by
  obtain ⟨dx, bx, dxb, Lb, xs, h1, h2, h3, h4, h5, h6⟩ := h
  exact ⟨dx, bx, dxb, Lb, xs, s _ _ h1, s _ _ h2, s _ _ h3, h4.mono fun a ys e => s _ _ e, s _ _ h5, h6⟩
theorem DrPart.same {H H' : Hp} {r : Addr} {F : List Addr} {dr : Option Dr} {dv : V} (h : DrPart D b H r F dr dv) (s : Same H H') : DrPart D b H' r F dr dv := by
  rcases h with h | ⟨d, q, la, ls, e1, e2, e3, h⟩
  · exact .inl h
  · exact .inr ⟨d, q, la, ls, e1, e2, e3, h.same s⟩
theorem DrAt.put {H : Hp} {r q la ls : Addr} {d : Dr} {C dx : Addr} {fs : List (PySem.Str × V)} {o : HO} (h : DrAt D b H r q la ls d) (hr : H r = some (.ins C dx fs)) : DrAt D b (upd H r o) r q la ls d := by
  obtain ⟨dx, bx, dxb, Lb, xs, h1, h2, h3, h4, h5, h6, h7, h8, h9⟩ := h
  refine ⟨dx, bx, dxb, Lb, xs, by rw [upd_ne h7.symm]; exact h1, by rw [upd_ne h8]; exact h2, ?_, h4.mono fun a ys e => ?_, ?_, h6, h7, h8, h9⟩
  · rw [upd_ne fun z => by rw [z, hr] at h3; cases h3]
    exact h3
  · rw [upd_ne fun z => by rw [z, hr] at e; cases e]
    exact e
  · rw [upd_ne fun z => by rw [z, hr] at h5; cases h5]
    exact h5
theorem DrPart.put {H : Hp} {r : Addr} {F : List Addr} {dr : Option Dr} {dv : V} {C dx : Addr} {fs : List (PySem.Str × V)} {o : HO} (h : DrPart D b H r F dr dv) (hr : H r = some (.ins C dx fs)) : DrPart D b (upd H r o) r F dr dv := by
  rcases h with h | ⟨d, q, la, ls, e1, e2, e3, h⟩
  · exact .inl h
  · exact .inr ⟨d, q, la, ls, e1, e2, e3, h.put hr⟩
theorem FltAt.put {H : Hp} {x : V} {f : Flt} {r C dx : Addr} {fs : List (PySem.Str × V)} {o : HO} (h : FltAt H x f) (hr : H r = some (.ins C dx fs)) : FltAt (upd H r o) x f :=
  h.mono fun a ys e => by
    rw [upd_ne fun z => by rw [z, hr] at e; cases e]
    exact e
theorem RdAt.same {e : Bool} {H H' : Hp} {r : Addr} {F : List Addr} {s : RS} (h : RdAt D b e H r F s) (k : Same H H') : RdAt D b e H' r F s := by
  obtain ⟨dx, fx, dv, h1, h2, h3⟩ := h
  exact ⟨dx, fx, dv, k _ _ h1, h2.mono fun a ys e => k _ _ e, h3.same k⟩
/-- the reader's own fields set anew -/
theorem RdAt.set {e' : Bool} {H : Hp} {r dx dx0 : Addr} {F : List Addr} {s' : RS} {f0 : List (PySem.Str × V)} {fx dv : V} (hr : H r = some (.ins D.rdr dx0 f0)) (h2 : FltAt H fx s'.fault) (h3 : DrPart D b H r F s'.draft dv) :
    RdAt D b e' (upd H r (.ins D.rdr dx (rdrF (sideV b) (stgV s'.stage) fx s'.done s'.read s'.line dv e'))) r F s' := ⟨dx, fx, dv, upd_same, h2.put hr, h3.put hr⟩
variable {P : Program} {w : World} {K : PySem.W.Frag} {mg : PySem.Str → Option Value} {base : Heap}
theorem rdA (O : Obs P K mg D) {f : PySem.Str} (h : f ∈ (["stream_side", "stage_name", "fault_found", "messages_done", "signs_read", "unfinished_line", "draft", "stream_ended"] : List PySem.Str)) : NoAttr K D.rdr f := O.rdN f h
theorem upd_upd {H : Hp} {a : Addr} {o o' : HO} : upd (upd H a o) a o' = upd H a o' := by
  funext c
  by_cases h : c = a
  · rw [h, upd_same, upd_same]
  · rw [upd_ne h, upd_ne h, upd_ne h]
def sp_break_off (D : Ad) (b : Bool) : Sp := fun vs H Q _ => ∃ (r : Addr) (k : FK) (i : Int) (e : Bool) (F : List Addr) (s : RS), vs = [.ref r, fkV k, .int i] ∧ RdAt D b e H r F s ∧ ∀ H', Fr' F H H' F → RdAt D b e H' r F (s.off k i) → Q .non H'
theorem ok_Reader_break_off (T : Txt K mg) (O : Obs P K mg D) : OkM P w K mg base CX0 D.rdr "break_off" 1 ["self", "kind", "index"] (sp_break_off D b) := by
  obtain ⟨f, fd, hm, F⟩ := O.Reader_break_off
  refine ⟨f, fd, hm, F.binds fun _ _ _ _ _ _ us hl => match us, hl with | [_, _, _], _ => rfl, F.ok sc_Reader_break_off (fun vs H Q E h => ?_) (fun cdv A outer s H vs Q E hr h => ?_)⟩
  · obtain ⟨r, k, i, e, F, s, rfl, _⟩ := h
    rfl
  · obtain ⟨r, k, i, e, F, s, rfl, ⟨dx, fx, dv, h1, h2, h3⟩, q⟩ := h
    refine ⟨_, pss_cons (ps_fld (pv 0) (pe_tup (pa_cons (pv 1) (pa_cons (pv 2) pa_nil))) rfl) (pss_one (ps_fld (pv 0) pe_str rfl)), ?_⟩
    refine ⟨_, rfl, _, rfl, by show 2 ≤ sizeLine; decide, fun t ht => ?_⟩
    have s1 := same_new (o := .tup [fkV k, .int i]) ht
    have h1' := s1 _ _ h1
    have htr : r ≠ t := ne_of_none h1 ht
    refine ⟨_, rfl, r, D.rdr, dx, _, rfl, h1', O.rdC, rdA O (by simp), by show 8 < 1000; decide, _, rfl, r, D.rdr, dx, _, rfl, upd_same, O.rdC, rdA O (by simp), by rw [rdr_put_fault_found]; show 8 < 1000; decide, ?_⟩
    rw [rdr_put_fault_found, upd_upd, rdr_put_stage_name]
    have hf := h3.mem
    refine q _ ((Fr'.refl.same s1).put (.inl hf)) ?_
    exact RdAt.set (s' := s.off k i) (dx := dx) h1' ⟨t, rfl, upd_same⟩ (h3.same s1)
def sp_complete (D : Ad) (b : Bool) : Sp := fun vs H Q _ => ∃ (r : Addr) (e : Bool) (F : List Addr) (s : RS) (d : Dr), vs = [.ref r] ∧ RdAt D b e H r F s ∧ s.draft = some d ∧ DrFin b d ∧
  ∀ H' x, Fr' F H H' [r] → RdAt D b e H' r [r] { s with draft := none, done := s.done + 1, stage := .start } → MsgAt D b (fun a => H a = none) H' x (startArgs b d.start) d.fields d.signs → Q x H'
theorem ok_Reader_complete_message (T : Txt K mg) (O : Obs P K mg D) : OkM P w K mg base CX0 D.rdr "complete_message" 10 ["self"] (sp_complete D b) := by
  obtain ⟨f, fd, hm, F⟩ := O.Reader_complete_message
  refine ⟨f, fd, hm, F.binds fun _ _ _ _ _ _ us hl => match us, hl with | [_], _ => rfl, F.ok sc_Reader_complete_message (fun vs H Q E h => ?_) (fun cdv A outer s H vs Q E hr h => ?_)⟩
  · obtain ⟨r, e, F, s, d, rfl, _⟩ := h
    rfl
  · obtain ⟨r, e, F, s, d, rfl, ⟨dx, fx, dv, h1, h2, h3⟩, hd, fin, q⟩ := h
    rcases h3 with ⟨e1, _⟩ | ⟨d', qa, la, ls, e1, rfl, rfl, h3⟩
    · rw [hd] at e1; cases e1
    rw [hd] at e1
    cases e1
    have hq : ∃ dxq fsq, H qa = some (.ins D.dft dxq fsq) ∧ fsq.lookup ("finished_message" : PySem.Str) = none := by
      obtain ⟨dxq, _, _, _, _, g1, _⟩ := h3
      exact ⟨dxq, _, g1, dft_no (by decide +kernel)⟩
    obtain ⟨dxq, fsq, g1, g2⟩ := hq
    refine ⟨_, pss_cons (ps_set (i := 1) sc_Reader_complete_message.nd rfl (Or.inl rfl) (pe_methO0 (ok_Draft_finished_message (b := b) T O) (pe_fld (pv 0) rfl) O.dfC hr)) (pss_cons (ps_fld (pv 0) pe_non rfl) (pss_cons (ps_fldaug (pv 0) pe_int in_add) (pss_cons (ps_fld (pv 0) pe_str rfl) (pss_one (ps_ret (pv 1)))))), ?_⟩
    refine ⟨_, rfl, r, D.rdr, dx, _, _, rfl, h1, O.rdC, rdA O (by simp), rdr_draft, qa, dxq, fsq, rfl, g1, g2, r, qa, la, ls, d, rfl, h3, fin, fun H1 x s1 hx => ?_⟩
    have h1' := s1 _ _ h1
    refine ⟨_, rfl, r, D.rdr, dx, _, rfl, h1', O.rdC, rdA O (by simp), by show 8 < 1000; decide, ?_⟩
    rw [rdr_put_draft]
    refine ⟨_, rfl, r, D.rdr, dx, _, _, rfl, upd_same, O.rdC, rdA O (by simp), rdr_messages_done, _, _, rfl, rfl, dx, _, upd_same, by show 8 < 1000; decide, ?_⟩
    rw [rdr_put_messages_done, upd_upd]
    refine ⟨_, rfl, r, D.rdr, dx, _, rfl, upd_same, O.rdC, rdA O (by simp), by show 8 < 1000; decide, ?_⟩
    rw [upd_upd, rdr_put_stage_name]
    refine ⟨_, rfl, ?_⟩
    have hxr : ∀ o : HO, MsgAt D b (fun a => H a = none) (upd H1 r o) x (startArgs b d.start) d.fields d.signs := fun o => hx.keep (fun a o e n => by
      rw [upd_ne fun z => by rw [z, h1] at n; cases n]
      exact e) fun a ys e => by
        rw [upd_ne fun z => by rw [z, h1'] at e; cases e]
        exact e
    refine q _ x ?_ ?_ (hxr _)
    · have f1 : Fr' [r, qa, la, ls] H H1 [r] := ⟨fun a o e _ => s1 _ _ e, fun a ha => .inl (by rw [List.mem_singleton] at ha; simp [ha]), fun a ha => by
        cases hz : H a with
        | none => exact absurd hz ha
        | some z => rw [s1 _ _ hz]; simp⟩
      exact f1.put (.inl (by simp))
    · exact RdAt.set (s' := { s with draft := none, done := s.done + 1, stage := .start }) (dx := dx) h1' (h2.mono fun a ys e => s1 _ _ e) (.inl ⟨rfl, rfl, rfl⟩)
/-- the reader's field read -/
theorem fltV {H : Hp} {x : V} {f : Flt} (h : FltAt H x f) : x = .non ∨ ∃ p, x = .ref p := by
  cases f with
  | none => exact .inl h
  | some f => obtain ⟨p, e, _⟩ := h; exact .inr ⟨p, e⟩
theorem stg_dec (g : Stg) (s : String) (k : Stg) (h : str s = stgV k) : decide (stgV g = V.str (PySem.Str.ofString s)) = decide (g = k) := by
  have e : V.str (PySem.Str.ofString s) = stgV k := h
  rw [e]
  cases g <;> cases k <;> first | rfl | decide +kernel
theorem stg_scal (g : Stg) (x : PySem.Str) : scal (stgV g) (.str x) = true := by cases g <;> rfl
theorem numV_ne0 (t : Tx) : scal (numV t) (.int 0) = true ∧ decide (numV t = V.int 0) = decide (t = K6.T "0") := by
  unfold numV
  cases h : numT t with
  | none =>
    refine ⟨rfl, ?_⟩
    have : t ≠ K6.T "0" := fun z => by rw [z] at h; revert h; decide +kernel
    rw [decide_eq_false (by intro z; cases z), decide_eq_false this]
  | some n =>
    refine ⟨rfl, ?_⟩
    rw [show decide (V.int (n : Nat) = V.int 0) = decide (n = 0) from lenD n 0]
    exact decide_eq_decide.mpr (numT_zero h)
/-- a frame of the draft set -/
theorem DrAt.frame {H : Hp} {r q la ls : Addr} {d d' : Dr} {dx : Addr} {bl : V} {o : Bool} {du : Int} {fr : V} (h : DrAt D b H r q la ls d) (hq : H q = some (.ins D.dft dx (dftF bl la fr o ls du))) (e1 : d'.start = d.start) (e2 : d'.fields = d.fields) (e3 : d'.signs = d.signs) :
    DrAt D b (upd H q (.ins D.dft dx (dftF bl la (frV d'.frame) d'.opn ls d'.due))) r q la ls d' := by
  obtain ⟨dx0, bx, dxb, Lb, xs, h1, h2, h3, h4, h5, h6, h7, h8, h9⟩ := h
  rw [hq] at h1
  injection h1 with h1
  injection h1 with _ hdx hf
  have hbl : bl = .ref bx := by
    unfold dftF at hf
    injection hf with hf _
    injection hf
  subst hbl
  have hql : ∀ c xs, H c = some (.lst xs) → c ≠ q := fun c xs e z => by rw [z, hq] at e; cases e
  refine ⟨dx, bx, dxb, Lb, xs, upd_same, by rw [upd_ne h9, e1]; exact h2, by rw [upd_ne (hql _ _ h3)]; exact h3, ?_, by rw [upd_ne (hql _ _ h5), e3]; exact h5, h6, h7, h8, h9⟩
  rw [e2]
  exact h4.mono fun a ys e => by
    rw [upd_ne fun z => by rw [z, hq] at e; cases e]
    exact e
def fmtLine (b : Bool) (s : RS) (d : Dr) (v : Tx) (i : Int) : RS := match frameRes (mayT d.start) (decide (s.stage = .trailer)) d.frame v with
  | .bad k => s.off k i
  | .frame v => { s with draft := some { d with frame := some v } }
  | .field _ _ => s
def sp_framing (D : Ad) (b : Bool) : Sp := fun vs H Q _ => ∃ (r : Addr) (v : Tx) (i : Int) (e : Bool) (F : List Addr) (s : RS) (d : Dr), vs = [.ref r, .str (S v), .int i] ∧ v.length ≤ 1000 ∧ RdAt D b e H r F s ∧ s.draft = some d ∧ argsOk' b (startArgs b d.start) ∧ mayA b ((startArgs b d.start).headD []) = mayT d.start ∧
  ∀ H', Fr' F H H' F → RdAt D b e H' r F (fmtLine b s d v i) → Q .non H'
theorem ok_Reader_read_framing_line (T : Txt K mg) (O : Obs P K mg D) : OkM P w K mg base CX0 D.rdr "read_framing_line" 4 ["self", "text", "first"] (sp_framing D b) := by
  obtain ⟨f, fd, hm, F⟩ := O.Reader_read_framing_line
  refine ⟨f, fd, hm, F.binds fun _ _ _ _ _ _ us hl => match us, hl with | [_, _, _], _ => rfl, F.ok sc_Reader_read_framing_line (fun vs H Q E h => ?_) (fun cdv A outer s H vs Q E hr h => ?_)⟩
  · obtain ⟨r, v, i, e, F, s, d, rfl, _⟩ := h
    rfl
  · obtain ⟨r, v, i, e, F, s, d, rfl, hv, hrd, hd, ha, hm, q⟩ := h
    have hrd0 := hrd
    obtain ⟨dx, fx, dv, h1, h2, h3⟩ := hrd
    rcases id h3 with ⟨e1, _⟩ | ⟨d', qa, la, ls, e1, rfl, rfl, h4⟩
    · rw [hd] at e1; cases e1
    rw [hd] at e1
    cases e1
    obtain ⟨dxq, bx, dxb, Lb, xs, g1, g2, g3, g4, g5, g6⟩ := id h4
    have N : ∀ f ∈ (["blank", "fields", "framing_value", "open_ended", "body_signs", "signs_due"] : List PySem.Str), NoAttr K D.dft f := O.dfN
    refine ⟨_, pss_cons (ps_set (i := 3) sc_Reader_read_framing_line.nd rfl (Or.inl rfl) (pe_callO (ok_read_number T) hr rfl (pa_cons (pv 1) pa_nil))) (pss_one (ps_if (PW.pt (pw_or (pt_cmpR op_eq (pe_fld (pv 0) rfl) pe_str (nomark _)) (pw_or1 (pt_cmpR op_notN (pe_fld (pe_fld (pv 0) rfl) rfl) pe_non (nomark _))))) (pss_one (ps_expr (pe_methO (ok_Reader_break_off (b := b) T O) (pv 0) O.rdC hr (pa_cons pe_str (pa_cons (pv 2) pa_nil))))) (pss_one (ps_if (PW.pt (pw_and (pt_cmpR op_isN (pv 3) pe_non (nomark _)) (pw_and1 (pt_cmpR op_ne (pv 1) (pe_gv T.CHUNKS_VALUE rfl) (nomark _))))) (pss_one (ps_expr (pe_methO (ok_Reader_break_off (b := b) T O) (pv 0) O.rdC hr (pa_cons pe_str (pa_cons (pv 2) pa_nil))))) (pss_one (ps_if (PW.pt (pw_and (pt_cmpR op_ne (pv 3) pe_int (nomark _)) (pw_and1 (pt_not (pt_val (pe_propO (ok_may T O b) (pe_fld (pe_fld (pv 0) rfl) rfl) (clsC O b) hr)))))) (pss_one (ps_expr (pe_methO (ok_Reader_break_off (b := b) T O) (pv 0) O.rdC hr (pa_cons pe_str (pa_cons (pv 2) pa_nil))))) (pss_one (ps_if (PW.pt (pw_and (pt_cmpR op_notN (pv 3) pe_non (nomark _)) (pw_and1 (pt_cmpR op_gt (pv 3) (pe_cc T.MOST_BODY rfl) (nomark _))))) (pss_one (ps_expr (pe_methO (ok_Reader_break_off (b := b) T O) (pv 0) O.rdC hr (pa_cons pe_str (pa_cons (pv 2) pa_nil))))) (pss_one (ps_fld (pe_fld (pv 0) rfl) (pv 1) rfl)))))))))), ?_⟩
    refine ⟨_, rfl, v, rfl, Nat.le_trans hv (by decide), fun H1 s1 => ?_⟩
    have h1' := s1 _ _ h1
    have g1' := s1 _ _ g1
    have rdS : ∀ {H2 : Hp}, Same H H2 → RdAt D b e H2 r [r, qa, la, ls] s := fun s2 => hrd0.same s2
    have brk : ∀ {H2 : Hp} (k : FK), Same H H2 → frameRes (mayT d.start) (decide (s.stage = .trailer)) d.frame v = .bad k → sp_break_off D b [.ref r, fkV k, .int i] H2 (fun _ H' => Q .non H') E0 := fun {H2} k s2 hres =>
      ⟨r, k, i, e, [r, qa, la, ls], s, rfl, rdS s2, fun H' fr rd => q H' ((Fr'.refl.same s2).trans fr) (by unfold fmtLine; rw [hres]; exact rd)⟩
    have fin : ∀ {H2 : Hp}, Same H H2 → frameRes (mayT d.start) (decide (s.stage = .trailer)) d.frame v = .frame v → Q .non (upd H2 qa (.ins D.dft dxq (putF "framing_value" (.str (S v)) (dftF (.ref bx) la (frV d.frame) d.opn ls d.due)))) := fun {H2} s2 hres => by
      refine q _ ((Fr'.refl.same s2).put (.inl (by simp))) ?_
      unfold fmtLine
      rw [hres, dft_put_framing_value]
      have hrq : r ≠ qa := g6.2.1
      have h4' := (h4.same s2).frame (d' := { d with frame := some v }) (s2 _ _ g1) rfl rfl rfl
      exact ⟨dx, fx, .ref qa, by rw [upd_ne hrq]; exact s2 _ _ h1, (h2.mono fun a ys e => s2 _ _ e).put (s2 _ _ g1), .inr ⟨_, qa, la, ls, rfl, rfl, rfl, h4'⟩⟩
    unfold frameRes at brk fin
    have e0 := numV_ne0 v
    have hrno := @rdr_no (sideV b) (stgV s.stage) fx s.done s.read s.line (.ref qa) e
    refine ⟨_, rfl, r, D.rdr, dx, _, _, rfl, h1', O.rdC, rdA O (by simp), rdr_stage_name, stg_scal _ _, _, rfl, ?_⟩
    rw [stg_dec s.stage "trailer" .trailer rfl]
    by_cases c1 : s.stage = .trailer
    · rw [decide_eq_true c1]
      exact iteT (iteT ⟨_, rfl, r, dx, _, rfl, h1', rdr_no (by decide +kernel), _, rfl, brk .length s1 (by rw [if_pos (.inl (decide_eq_true c1))])⟩)
    rw [decide_eq_false c1]
    refine iteF ⟨_, rfl, r, D.rdr, dx, _, _, rfl, h1', O.rdC, rdA O (by simp), rdr_draft, qa, D.dft, dxq, _, _, rfl, g1', O.dfC, N _ (by simp), dft_framing_value, rfl, _, rfl, ?_⟩
    rw [frV_not]
    by_cases c2 : d.frame = none
    case neg =>
      rw [decide_eq_false c2]
      exact iteT ⟨_, rfl, r, dx, _, rfl, h1', rdr_no (by decide +kernel), _, rfl, brk .length s1 (by rw [if_pos (.inr (.inl c2))])⟩
    rw [decide_eq_true c2]
    have hnn : decide (numV v = V.non) = decide (numT v = none) := by
      unfold numV
      cases numT v with
      | none => rfl
      | some n => rw [decide_eq_false (by intro z; cases z), decide_eq_false (by intro z; cases z)]
    have n2 : ¬ (v ≠ chunksT ∧ numT v = none) → ¬ (decide (s.stage = .trailer) = true ∨ d.frame ≠ none ∨ (v ≠ chunksT ∧ numT v = none)) := fun c3 z => by
      rcases z with z | z | z
      · exact c1 (of_decide_eq_true z)
      · exact z c2
      · exact c3 z
    refine iteF ⟨_, rfl, rfl, _, rfl, ?_⟩
    rw [hnn]
    have mayQ : ∀ {R : VK}, (∀ H2, Same H H2 → R (.bl (mayT d.start)) H2) → (tProp (D.cls b) (sp_may b (D.cls b)) [] E0 (tFld K (tFld K (tVar 0) "draft") "blank")) [some (.ref r), some (.str (S v)), some (.int i), some (numV v)] H1 R := fun {R} k =>
      ⟨_, rfl, r, D.rdr, dx, _, _, rfl, h1', O.rdC, rdA O (by simp), rdr_draft, qa, D.dft, dxq, _, _, rfl, g1', O.dfC, N _ (by simp), dft_blank, bx, dxb, _, rfl, s1 _ _ g2, bx, dxb, Lb, _, _, rfl, s1 _ _ g2, ha, fun H2 s2 => by
        rw [hm]
        exact k H2 (s1.trans s2)⟩
    cases hn : numT v with
    | none =>
      rw [hn] at brk fin n2 hnn
      refine iteT ⟨_, rfl, rfl, _, rfl, ?_⟩
      rw [show decide (V.str (S v) = V.str (PySem.Str.ofString "chunks")) = decide (v = chunksT) from dec_T v "chunks"]
      by_cases c3 : v = chunksT
      case neg =>
        rw [decide_eq_false c3]
        exact iteT ⟨_, rfl, r, dx, _, rfl, h1', rdr_no (by decide +kernel), _, rfl, brk .length s1 (by rw [if_pos (.inr (.inr ⟨c3, rfl⟩))])⟩
      rw [decide_eq_true c3]
      have n3 := n2 (fun z => z.1 c3)
      have v0 : v ≠ K6.T "0" := by rw [c3]; decide +kernel
      refine iteF ⟨_, rfl, e0.1, _, rfl, ?_⟩
      rw [e0.2, decide_eq_false v0]
      refine iteT (mayQ fun H2 s2 => ⟨_, rfl, ?_⟩)
      cases hmm : mayT d.start with
      | false => exact iteT ⟨_, rfl, r, dx, _, rfl, s2 _ _ h1, rdr_no (by decide +kernel), _, rfl, brk .length s2 (by rw [if_neg n3, if_pos ⟨hmm, v0⟩])⟩
      | true =>
        refine iteF ⟨_, rfl, rfl, _, rfl, ?_⟩
        rw [hnn]
        refine iteF ⟨_, rfl, _, rfl, r, D.rdr, dx, _, _, rfl, s2 _ _ h1, O.rdC, rdA O (by simp), rdr_draft, qa, D.dft, dxq, _, rfl, s2 _ _ g1, O.dfC, N _ (by simp), by show 6 < 1000; decide, ?_⟩
        exact fin s2 (by rw [if_neg n3, if_neg (fun z => by rw [hmm] at z; cases z.1), if_neg (by decide)])
    | some n =>
      rw [hn] at brk fin n2 hnn
      have n3 := n2 (fun z => by cases z.2)
      have hnv : numV v = .int (n : Nat) := by unfold numV; rw [hn]
      refine iteF ⟨_, rfl, e0.1, _, rfl, ?_⟩
      rw [e0.2]
      have third : ∀ {H2 : Hp}, Same H H2 → (mayT d.start = false ∧ v ≠ K6.T "0" → False) → tIfS (tAnd (tTest (tOp (fun x y H Q => y = V.non ∧ Q (V.bl !decide (x = V.non)) H) (tVar 3) (tC .non))) (tTest (tOp (rI0 fun i j => .bl (decide (j < i))) (tVar 3) (tC (.int 100000)))))
          (tDrop (tMeth D.rdr "break_off" (sp_break_off D b) [] E0 (tVar 0) (tCons (tC (str "long")) (tCons (tVar 2) tNil)))) (sFld K (tFld K (tVar 0) "draft") (tVar 1) "framing_value") { nx := fun _ H' => Q .non H', rt := Q } [some (.ref r), some (.str (S v)), some (.int i), some (numV v)] H2 := fun {H2} s2 hno => by
        refine ⟨_, rfl, rfl, _, rfl, ?_⟩
        rw [hnn]
        refine iteT ⟨_, rfl, _, _, hnv, rfl, _, rfl, ?_⟩
        refine ite2 (fun h => ?_) (fun h => ?_)
        · have h := of_decide_eq_true h
          exact ⟨_, rfl, r, dx, _, rfl, s2 _ _ h1, rdr_no (by decide +kernel), _, rfl, brk .long s2 (by rw [if_neg n3, if_neg hno, if_pos (show 100000 < (some n).getD 0 from by show 100000 < n; omega)])⟩
        · have h := nd h
          refine ⟨_, rfl, _, rfl, r, D.rdr, dx, _, _, rfl, s2 _ _ h1, O.rdC, rdA O (by simp), rdr_draft, qa, D.dft, dxq, _, rfl, s2 _ _ g1, O.dfC, N _ (by simp), by show 6 < 1000; decide, ?_⟩
          exact fin s2 (by rw [if_neg n3, if_neg hno, if_neg (show ¬ 100000 < (some n).getD 0 from by show ¬ 100000 < n; omega)])
      by_cases v0 : v = K6.T "0"
      · rw [decide_eq_true v0]
        exact iteF (third s1 fun z => z.2 v0)
      · rw [decide_eq_false v0]
        refine iteT (mayQ fun H2 s2 => ⟨_, rfl, ?_⟩)
        cases hmm : mayT d.start with
        | false => exact iteT ⟨_, rfl, r, dx, _, rfl, s2 _ _ h1, rdr_no (by decide +kernel), _, rfl, brk .length s2 (by rw [if_neg n3, if_pos ⟨hmm, v0⟩])⟩
        | true => exact iteF (third s2 fun z => by rw [hmm] at z; cases z.1)
end
end K6

set_option Elab.async false
set_option linter.all false
set_option maxRecDepth 100000
set_option maxHeartbeats 4000000
/-! KO8: the reader's lines. -/
namespace K6
open PySem PySem.Spec PyProof.Rows L2
section
variable {D : Ad} {b : Bool}
variable {P : Program} {w : World} {K : PySem.W.Frag} {mg : PySem.Str → Option Value} {base : Heap}
def sp_chunk_end (D : Ad) (b : Bool) : Sp := fun vs H Q _ => ∃ (r : Addr) (c : Nat) (e : Bool) (F : List Addr) (s : RS), vs = [.ref r, sV [c]] ∧ RdAt D b e H r F s ∧ ∀ H', Fr' F H H' F → RdAt D b e H' r F (readChunkEnd s c) → Q .non H'
theorem nl_dec (c : Nat) : decide (sV [c] = V.str (PySem.Str.ofString "\n")) = decide (c = 10) := dec_one c "\n" 10 (by decide +kernel)
theorem ok_Reader_read_chunk_end (T : Txt K mg) (O : Obs P K mg D) : OkM P w K mg base CX0 D.rdr "read_chunk_end" 2 ["self", "sign"] (sp_chunk_end D b) := by
  obtain ⟨f, fd, hm, F⟩ := O.Reader_read_chunk_end
  refine ⟨f, fd, hm, F.binds fun _ _ _ _ _ _ us hl => match us, hl with | [_, _], _ => rfl, F.ok sc_Reader_read_chunk_end (fun vs H Q E h => ?_) (fun cdv A outer s H vs Q E hr h => ?_)⟩
  · obtain ⟨r, c, e, F, s, rfl, _⟩ := h
    rfl
  · obtain ⟨r, c, e, F, s, rfl, hrd, q⟩ := h
    have hrd0 := hrd
    obtain ⟨dx, fx, dv, h1, h2, h3⟩ := hrd
    refine ⟨_, pss_one (ps_if (pt_cmpR op_eq (pv 1) pe_str (nomark _)) (pss_one (ps_fld (pv 0) pe_str rfl)) (pss_one (ps_expr (pe_methO (ok_Reader_break_off (b := b) T O) (pv 0) O.rdC hr (pa_cons pe_str (pa_cons (pe_fld (pv 0) rfl) pa_nil)))))), ?_⟩
    refine ⟨_, rfl, rfl, _, rfl, ?_⟩
    rw [nl_dec]
    unfold readChunkEnd at q
    refine ite2 (fun h => ?_) (fun h => ?_)
    · rw [if_pos (of_decide_eq_true h)] at q
      refine ⟨_, rfl, r, D.rdr, dx, _, rfl, h1, O.rdC, rdA O (by simp), by show 8 < 1000; decide, ?_⟩
      rw [rdr_put_stage_name]
      exact q _ (Fr'.refl.put (.inl h3.mem)) (RdAt.set (s' := { s with stage := .size }) (dx := dx) h1 h2 h3)
    · rw [if_neg (nd h)] at q
      exact ⟨_, rfl, r, dx, _, rfl, h1, rdr_no (by decide +kernel), _, rfl, r, D.rdr, dx, _, _, rfl, h1, O.rdC, rdA O (by simp), rdr_signs_read, r, .chunk, s.read, e, F, s, rfl, hrd0, q⟩
/-- the draft's place -/
theorem RdAt.draft {e : Bool} {H : Hp} {r : Addr} {F : List Addr} {s : RS} {d : Dr} (h : RdAt D b e H r F s) (hd : s.draft = some d) : ∃ dx fx q la ls, H r = some (.ins D.rdr dx (rdrF (sideV b) (stgV s.stage) fx s.done s.read s.line (.ref q) e)) ∧ FltAt H fx s.fault ∧ F = [r, q, la, ls] ∧ DrAt D b H r q la ls d := by
  obtain ⟨dx, fx, dv, h1, h2, h3⟩ := h
  rcases h3 with ⟨e1, _⟩ | ⟨d', qa, la, ls, e1, rfl, rfl, h4⟩
  · rw [hd] at e1; cases e1
  · rw [hd] at e1
    cases e1
    exact ⟨dx, fx, qa, la, ls, h1, h2, rfl, h4⟩
def sp_size (D : Ad) (b : Bool) : Sp := fun vs H Q _ => ∃ (r : Addr) (t : Tx) (i : Int) (e : Bool) (F : List Addr) (s : RS) (d : Dr), vs = [.ref r, .str (S t), .int i] ∧ t.length ≤ 1000 ∧ RdAt D b e H r F s ∧ s.draft = some d ∧
  ∀ H', Fr' F H H' F → RdAt D b e H' r F (readSizeLine (Par b) s t i) → Q .non H'
theorem ok_Reader_read_size_line (T : Txt K mg) (O : Obs P K mg D) : OkM P w K mg base CX0 D.rdr "read_size_line" 3 ["self", "text", "first"] (sp_size D b) := by
  obtain ⟨f, fd, hm, F⟩ := O.Reader_read_size_line
  refine ⟨f, fd, hm, F.binds fun _ _ _ _ _ _ us hl => match us, hl with | [_, _, _], _ => rfl, F.ok sc_Reader_read_size_line (fun vs H Q E h => ?_) (fun cdv A outer s H vs Q E hr h => ?_)⟩
  · obtain ⟨r, t, i, e, F, s, d, rfl, _⟩ := h
    rfl
  · obtain ⟨r, t, i, e, F, s, d, rfl, ht, hrd, hd, q⟩ := h
    have hrd0 := hrd
    obtain ⟨dx, fx, qa, la, ls, h1, h2, rfl, h4⟩ := hrd.draft hd
    obtain ⟨dxq, bx, dxb, Lb, xs, g1, g2, g3, g4, g5, g6⟩ := id h4
    have N : ∀ f ∈ (["blank", "fields", "framing_value", "open_ended", "body_signs", "signs_due"] : List PySem.Str), NoAttr K D.dft f := O.dfN
    refine ⟨_, pss_cons (ps_set (i := 3) sc_Reader_read_size_line.nd rfl (Or.inl rfl) (pe_callO (ok_read_number T) hr rfl (pa_cons (pv 1) pa_nil))) (pss_one (ps_if (pt_cmpR op_isN (pv 3) pe_non (nomark _)) (pss_one (ps_expr (pe_methO (ok_Reader_break_off (b := b) T O) (pv 0) O.rdC hr (pa_cons pe_str (pa_cons (pv 2) pa_nil))))) (pss_one (ps_if (pt_cmpR op_gt (pe_op op_add (pe_callB call_len_seq rfl T.len (by decide +kernel) (pa_cons (pe_fld (pe_fld (pv 0) rfl) rfl) pa_nil)) (pv 3)) (pe_cc T.MOST_BODY rfl) (nomark _)) (pss_one (ps_expr (pe_methO (ok_Reader_break_off (b := b) T O) (pv 0) O.rdC hr (pa_cons pe_str (pa_cons (pv 2) pa_nil))))) (pss_one (ps_if (pt_cmpR op_eq (pv 3) pe_int (nomark _)) (pss_one (ps_fld (pv 0) pe_str rfl)) (pss_cons (ps_fld (pe_fld (pv 0) rfl) (pv 3) rfl) (pss_one (ps_fld (pv 0) pe_str rfl))))))))), ?_⟩
    refine ⟨_, rfl, t, rfl, Nat.le_trans ht (by decide), fun H1 s1 => ?_⟩
    have h1' := s1 _ _ h1
    have g1' := s1 _ _ g1
    have hrq : r ≠ qa := g6.2.1
    have hrdS := hrd0.same s1
    obtain ⟨dx2, fx2, dv2, k1, k2, k3⟩ := id hrdS
    unfold readSizeLine at q
    rw [hd] at q
    dsimp only at q
    have hPn : (Par b).num t = numT t := rfl
    rw [hPn] at q
    refine ⟨_, rfl, rfl, _, rfl, ?_⟩
    unfold numV
    cases hn : numT t with
    | none =>
      rw [hn] at q
      exact iteT ⟨_, rfl, r, dx, _, rfl, h1', rdr_no (by decide +kernel), _, rfl, r, .chunk, i, e, _, s, rfl, hrdS, fun H' fr rd => q H' ((Fr'.refl.same s1).trans fr) rd⟩
    | some n =>
      rw [hn] at q
      dsimp only at q
      rw [show decide (V.int (n : Nat) = V.non) = false from decide_eq_false (by intro z; cases z)]
      refine iteF ⟨_, rfl, r, D.rdr, dx, _, _, rfl, h1', O.rdC, rdA O (by simp), rdr_draft, qa, D.dft, dxq, _, _, rfl, g1', O.dfC, N _ (by simp), dft_body_signs, ls, _, rfl, .inl (SqL.of (s1 _ _ g5)), _, rfl, _, _, rfl, rfl, _, _, rfl, rfl, _, rfl, ?_⟩
      rw [List.length_map]
      refine ite2 (fun h => ?_) (fun h => ?_)
      · have h := of_decide_eq_true h
        rw [if_pos (by omega)] at q
        exact ⟨_, rfl, r, dx, _, rfl, h1', rdr_no (by decide +kernel), _, rfl, r, .long, i, e, _, s, rfl, hrdS, fun H' fr rd => q H' ((Fr'.refl.same s1).trans fr) rd⟩
      · have h := nd h
        rw [if_neg (by omega)] at q
        refine ⟨_, rfl, rfl, _, rfl, ?_⟩
        rw [show decide (V.int (n : Nat) = V.int 0) = decide (n = 0) from lenD n 0]
        refine ite2 (fun h0 => ?_) (fun h0 => ?_)
        · rw [if_pos (of_decide_eq_true h0)] at q
          refine ⟨_, rfl, r, D.rdr, dx, _, rfl, h1', O.rdC, rdA O (by simp), by show 8 < 1000; decide, ?_⟩
          rw [rdr_put_stage_name]
          exact q _ ((Fr'.refl.same s1).put (.inl (by simp))) (RdAt.set (s' := ⟨.trailer, s.fault, s.done, s.read, s.line, some d⟩) (dx := dx) h1' (h2.mono fun a ys e => s1 _ _ e) (.inr ⟨d, qa, la, ls, rfl, rfl, rfl, h4.same s1⟩))
        · rw [if_neg (nd h0)] at q
          refine ⟨_, rfl, _, rfl, r, D.rdr, dx, _, _, rfl, h1', O.rdC, rdA O (by simp), rdr_draft, qa, D.dft, dxq, _, rfl, g1', O.dfC, N _ (by simp), by show 6 < 1000; decide, ?_⟩
          rw [dft_put_signs_due]
          have h4' := (h4.same s1).frame (d' := { d with due := n }) g1' rfl rfl rfl
          refine ⟨_, rfl, r, D.rdr, dx, _, rfl, by rw [upd_ne hrq]; exact h1', O.rdC, rdA O (by simp), by show 8 < 1000; decide, ?_⟩
          rw [rdr_put_stage_name]
          refine q _ (((Fr'.refl.same s1).put (.inl (by simp))).put (.inl (by simp))) ?_
          exact RdAt.set (s' := { s with draft := some { d with due := (n : Int) }, stage := .chunk }) (dx := dx) (by rw [upd_ne hrq]; exact h1') ((h2.mono fun a ys e => s1 _ _ e).put g1') (.inr ⟨_, qa, la, ls, rfl, rfl, rfl, h4'⟩)
theorem frameRes_nf (m t : Bool) (f : Option Tx) (v n v' : Tx) : frameRes m t f v ≠ .field n v' := by
  unfold frameRes
  split
  · intro z; cases z
  · split
    · intro z; cases z
    · split <;> (intro z; cases z)
def sp_field (D : Ad) (b : Bool) : Sp := fun vs H Q _ => ∃ (r : Addr) (t : Tx) (i : Int) (e : Bool) (F : List Addr) (s : RS) (d : Dr), vs = [.ref r, .str (S t), .int i] ∧ t.length ≤ 300 ∧ RdAt D b e H r F s ∧ s.draft = some d ∧ argsOk' b (startArgs b d.start) ∧ mayA b ((startArgs b d.start).headD []) = mayT d.start ∧
  d.fields.length ≤ 40 ∧ ∀ H', Fr' F H H' F → RdAt D b e H' r F (readFieldLine (Par b) s t i) → Q .non H'
theorem ok_Reader_read_field_line (T : Txt K mg) (O : Obs P K mg D) : OkM P w K mg base CX0 D.rdr "read_field_line" 5 ["self", "text", "first"] (sp_field D b) := by
  obtain ⟨f, fd, hm, F⟩ := O.Reader_read_field_line
  refine ⟨f, fd, hm, F.binds fun _ _ _ _ _ _ us hl => match us, hl with | [_, _, _], _ => rfl, F.ok sc_Reader_read_field_line (fun vs H Q E h => ?_) (fun cdv A outer s H vs Q E hr h => ?_)⟩
  · obtain ⟨r, t, i, e, F, s, d, rfl, _⟩ := h
    rfl
  · obtain ⟨r, t, i, e, F, s, d, rfl, ht, hrd, hd, ha, hm, hmany, q⟩ := h
    have hrd0 := hrd
    obtain ⟨dx, fx, qa, la, ls, h1, h2, rfl, h4⟩ := hrd.draft hd
    obtain ⟨dxq, bx, dxb, Lb, xs, g1, g2, g3, g4, g5, g6⟩ := id h4
    have N : ∀ f ∈ (["blank", "fields", "framing_value", "open_ended", "body_signs", "signs_due"] : List PySem.Str), NoAttr K D.dft f := O.dfN
    refine ⟨_, pss_cons (ps_set (i := 3) sc_Reader_read_field_line.nd rfl (Or.inl rfl) (pe_callO (ok_parse_field T) hr rfl (pa_cons (pv 1) pa_nil))) (pss_one (ps_if (pt_cmpR op_isN (pv 3) pe_non (nomark _)) (pss_one (ps_expr (pe_methO (ok_Reader_break_off (b := b) T O) (pv 0) O.rdC hr (pa_cons pe_str (pa_cons (pv 2) pa_nil))))) (pss_one (ps_if (pt_cmpR op_eq (pe_ix ix_tup (pv 3) pe_int (fun _ _ => rfl)) (pe_gv T.LENGTH_NAME rfl) (nomark _)) (pss_one (ps_expr (pe_methO (ok_Reader_read_framing_line (b := b) T O) (pv 0) O.rdC hr (pa_cons (pe_ix ix_tup (pv 3) pe_int (fun _ _ => rfl)) (pa_cons (pv 2) pa_nil))))) (pss_one (ps_if (pt_cmpR op_eq (pe_callB call_len_seq rfl T.len (by decide +kernel) (pa_cons (pe_fld (pe_fld (pv 0) rfl) rfl) pa_nil)) (pe_cc T.MOST_FIELDS rfl) (nomark _)) (pss_one (ps_expr (pe_methO (ok_Reader_break_off (b := b) T O) (pv 0) O.rdC hr (pa_cons pe_str (pa_cons (pv 2) pa_nil))))) (pss_one (ps_expr (pe_bm PySem.F.plainAttrs_list PySem.F.slot_list_append PySem.F.type_list_append mt_append (pe_fld (pe_fld (pv 0) rfl) rfl) (pa_cons (pv 3) pa_nil)))))))))), ?_⟩
    unfold readFieldLine at q
    rw [hd] at q
    dsimp only at q
    have hL : (Par b).lineRes ((Par b).may d.start) (decide (s.stage = .trailer)) d.frame d.fields.length t = lineResT (mayT d.start) (decide (s.stage = .trailer)) d.frame d.fields.length t := rfl
    rw [hL] at q
    unfold lineResT at q
    refine ⟨_, rfl, t, rfl, by omega, fun hf H1 s1 => ?_, fun fl hf H1 p s1 hp => ?_⟩
    · rw [hf] at q
      exact ⟨_, rfl, rfl, _, rfl, iteT ⟨_, rfl, r, dx, _, rfl, s1 _ _ h1, rdr_no (by decide +kernel), _, rfl, r, .field, i, e, _, s, rfl, hrd0.same s1, fun H' fr rd => q H' ((Fr'.refl.same s1).trans fr) rd⟩⟩
    · rw [hf] at q
      dsimp only at q
      refine ⟨_, rfl, rfl, _, rfl, iteF ⟨_, rfl, p, _, _, _, rfl, rfl, SqT.of hp, atI_nat (j := 0) rfl, rfl, _, rfl, ?_⟩⟩
      rw [dec_T]
      have hfl : fl.1.length ≤ 1000 ∧ fl.2.length ≤ 1000 := by
        unfold fieldOf at hf
        split at hf
        · cases hf
        · rename_i k hk
          split at hf
          · cases hf
          · injection hf with hf
            rw [← hf]
            refine ⟨Nat.le_trans (lowT_len _) ?_, Nat.le_trans (stripT_len _) ?_⟩
            · rw [List.length_take]; omega
            · rw [List.length_drop]; omega
      by_cases c1 : fl.1 = K6.T "length"
      · rw [if_pos c1] at q
        rw [decide_eq_true c1]
        refine iteT ⟨_, rfl, r, dx, _, rfl, s1 _ _ h1, rdr_no (by decide +kernel), _, rfl, p, _, _, _, rfl, rfl, SqT.of hp, atI_nat (j := 1) rfl, _, rfl, r, fl.2, i, e, _, s, d, rfl, hfl.2, hrd0.same s1, hd, ha, hm, fun H' fr rd => q H' ((Fr'.refl.same s1).trans fr) ?_⟩
        unfold fmtLine at rd
        cases hres : frameRes (mayT d.start) (decide (s.stage = .trailer)) d.frame fl.2 with
        | bad k => rw [hres] at rd; exact rd
        | frame v => rw [hres] at rd; exact rd
        | field n v => exact absurd hres (frameRes_nf _ _ _ _ _ _)
      · rw [if_neg c1] at q
        rw [decide_eq_false c1]
        have g3' := s1 _ _ g3
        have hxl := g4.length
        refine iteF ⟨_, rfl, r, D.rdr, dx, _, _, rfl, s1 _ _ h1, O.rdC, rdA O (by simp), rdr_draft, qa, D.dft, dxq, _, _, rfl, s1 _ _ g1, O.dfC, N _ (by simp), dft_fields, la, xs, rfl, .inl (SqL.of g3'), rfl, _, rfl, ?_⟩
        rw [hxl, show (V.int 40) = V.int ((40 : Nat) : Int) from rfl, lenD]
        refine ite2 (fun h => ?_) (fun h => ?_)
        · have h := of_decide_eq_true h
          rw [if_pos (by omega)] at q
          exact ⟨_, rfl, r, dx, _, rfl, s1 _ _ h1, rdr_no (by decide +kernel), _, rfl, r, .many, i, e, _, s, rfl, hrd0.same s1, fun H' fr rd => q H' ((Fr'.refl.same s1).trans fr) rd⟩
        · have h := nd h
          rw [if_neg (by omega)] at q
          refine ⟨_, rfl, r, D.rdr, dx, _, _, rfl, s1 _ _ h1, O.rdC, rdA O (by simp), rdr_draft, qa, D.dft, dxq, _, _, rfl, s1 _ _ g1, O.dfC, N _ (by simp), dft_fields, .inl ⟨rfl, _, SqL.of g3'⟩, _, rfl, la, xs, _, rfl, rfl, g3', by rw [hxl]; show _ < 16777216; omega, ?_⟩
          have kt := put_tup (o := .lst (xs ++ [V.ref p])) g3'
          refine q _ ((Fr'.refl.same s1).put (.inl (by simp))) ⟨dx, fx, .ref qa, ?_, h2.mono fun a ys e => kt _ _ (s1 _ _ e), .inr ⟨_, qa, la, ls, rfl, rfl, rfl, dxq, bx, dxb, Lb, xs ++ [.ref p], ?_, ?_, upd_same, ?_, ?_, g6⟩⟩
          · rw [upd_ne fun z => by rw [← z, s1 _ _ h1] at g3'; cases g3']
            exact s1 _ _ h1
          · rw [upd_ne fun z => by rw [← z, s1 _ _ g1] at g3'; cases g3']
            exact s1 _ _ g1
          · rw [upd_ne fun z => by rw [← z, s1 _ _ g2] at g3'; cases g3']
            exact s1 _ _ g2
          · exact FldsAt.snoc ⟨p, rfl, kt _ _ hp⟩ (g4.mono fun a ys e => kt _ _ (s1 _ _ e))
          · rw [upd_ne g6.1.symm]
            exact s1 _ _ g5
end
end K6

set_option Elab.async false
set_option linter.all false
set_option maxRecDepth 100000
set_option maxHeartbeats 4000000
/-! KO9: the reader's signs. -/
namespace K6
open PySem PySem.Spec PyProof.Rows L2
section
variable {D : Ad} {b : Bool}
variable {P : Program} {w : World} {K : PySem.W.Frag} {mg : PySem.Str → Option Value} {base : Heap}
def sp_rstart (D : Ad) (b : Bool) : Sp := fun vs H Q _ => ∃ (r : Addr) (t : Tx) (i : Int) (e : Bool) (F : List Addr) (s : RS), vs = [.ref r, .str (S t), .int i] ∧ t.length ≤ 300 ∧ RdAt D b e H r F s ∧ s.draft = none ∧ s.stage = .start ∧
  ∀ H' F', Fr' F H H' F' → RdAt D b e H' r F' (readStartLine (Par b) s t i) → Q .non H'
theorem ok_Reader_read_start_line (T : Txt K mg) (O : Obs P K mg D) : OkM P w K mg base CX0 D.rdr "read_start_line" 9 ["self", "text", "first"] (sp_rstart D b) := by
  obtain ⟨f, fd, hm, F⟩ := O.Reader_read_start_line
  refine ⟨f, fd, hm, F.binds fun _ _ _ _ _ _ us hl => match us, hl with | [_, _, _], _ => rfl, F.ok sc_Reader_read_start_line (fun vs H Q E h => ?_) (fun cdv A outer s H vs Q E hr h => ?_)⟩
  · obtain ⟨r, t, i, e, F, s, rfl, _⟩ := h
    rfl
  · obtain ⟨r, t, i, e, F, s, rfl, ht, hrd, hd, hst, q⟩ := h
    obtain ⟨fdi, fddi, Md, bd, Gd⟩ := ok_dinit (P := P) (w := w) (base := base) T O
    have hrd0 := hrd
    obtain ⟨dx, fx, dv, h1, h2, h3⟩ := hrd
    have hF : dv = .non ∧ F = [r] := by
      rcases h3 with ⟨_, e1, e2⟩ | ⟨d', _, _, _, e1, _⟩
      · exact ⟨e1, e2⟩
      · rw [hd] at e1; cases e1
    obtain ⟨rfl, rfl⟩ := hF
    refine ⟨_, pss_cons (ps_set (i := 3) sc_Reader_read_start_line.nd rfl (Or.inl rfl) (pe_callO (ok_parse_start T) hr rfl (pa_cons (pe_fld (pv 0) rfl) (pa_cons (pv 1) pa_nil)))) (pss_cons (ps_if (pt_cmpR op_isN (pv 3) pe_non (nomark _)) (pss_cons (ps_expr (pe_methO (ok_Reader_break_off (b := b) T O) (pv 0) O.rdC hr (pa_cons pe_str (pa_cons (pv 2) pa_nil)))) (pss_one ps_retN)) pss_nil) (pss_cons (ps_fld (pv 0) (pe_make Md Gd (hr.mono (by decide)) rfl O.df bd .nil pass0 (pa_cons (pe_callO (ok_empty_message T O) hr rfl (pa_cons (pe_fld (pv 0) rfl) (pa_cons (pv 3) pa_nil))) pa_nil)) rfl) (pss_one (ps_fld (pv 0) pe_str rfl)))), ?_⟩
    unfold readStartLine at q
    have hP : (Par b).startOk t = startOkT b t := rfl
    rw [hP] at q
    refine ⟨_, rfl, r, D.rdr, dx, _, _, rfl, h1, O.rdC, rdA O (by simp), rdr_stream_side, _, rfl, b, t, rfl, by omega, fun hno H1 s1 => ?_, fun hyes H1 p s1 hp => ?_⟩
    · rw [if_neg (by rw [hno]; simp)] at q
      exact ⟨_, rfl, rfl, _, rfl, iteT ⟨_, rfl, r, dx, _, rfl, s1 _ _ h1, rdr_no (by decide +kernel), _, rfl, r, .start, i, e, _, s, rfl, hrd0.same s1, fun H' fr rd => q H' _ ((Fr'.refl.same s1).trans fr) rd⟩⟩
    · rw [if_pos hyes] at q
      obtain ⟨a1, a2, a3⟩ := start_args hyes (by omega)
      have h1' := s1 _ _ h1
      refine ⟨_, rfl, rfl, _, rfl, iteF ⟨_, rfl, r, D.rdr, dx, _, _, rfl, h1', O.rdC, rdA O (by simp), rdr_stream_side, _, rfl, b, p, startArgs b t, rfl, a2, hp, fun H2 x s2 hx => ?_⟩⟩
      obtain ⟨bx, dxb, Lb, ysb, rfl, nb, nL, hb1, hb2, hb3⟩ := hx
      intro qa dxq nq nd nex
      have s3 := made_old (C := D.dft) nq nd
      have h12 := s2 _ _ h1'
      refine ⟨qa, dxq, .ref bx, rfl, upd_same, fun H3 la ls k3 nla nls hll hq3 hla3 hls3 => ⟨rfl, ?_⟩⟩
      have sH : Same H2 H3 := made_same nq nd k3
      have hrq : r ≠ qa := ne_of_none h12 nq
      have hbq : bx ≠ qa := ne_of_none hb1 nq
      have hbr : bx ≠ r := fun z => by rw [z, h1'] at nb; cases nb
      have h13 := sH _ _ h12
      refine ⟨_, rfl, r, D.rdr, dx, _, rfl, h13, O.rdC, rdA O (by simp), by show 8 < 1000; decide, ?_⟩
      rw [rdr_put_draft]
      refine ⟨_, rfl, r, D.rdr, dx, _, rfl, upd_same, O.rdC, rdA O (by simp), by show 8 < 1000; decide, ?_⟩
      rw [upd_upd, rdr_put_stage_name]
      have sall : Same H H3 := (s1.trans s2).trans sH
      have dr : DrAt D b H3 r qa la ls ⟨t, [], none, false, [], 0⟩ := ⟨dxq, bx, dxb, Lb, [], hq3, sH _ _ hb1, hla3, .nil, hls3, hll, hrq, hbr, hbq⟩
      refine q _ [r, qa, la, ls] ⟨fun a o e n => ?_, fun a ha => ?_, fun a ha => ?_⟩ ?_
      · rw [upd_ne fun z => n (by rw [z]; simp)]
        exact sall _ _ e
      · simp only [List.mem_cons, List.not_mem_nil, or_false] at ha
        rcases ha with rfl | rfl | rfl | rfl
        · exact .inl (by simp)
        · exact .inr ((s1.trans s2).free nq)
        · exact .inr ((s1.trans s2).free (made_none nla))
        · exact .inr ((s1.trans s2).free (made_none nls))
      · by_cases har : a = r
        · rw [har, upd_same]; simp
        · rw [upd_ne har]
          cases hz : H a with
          | none => exact absurd hz ha
          | some z => rw [sall _ _ hz]; simp
      · exact RdAt.set (s' := { s with draft := some ⟨t, [], none, false, [], 0⟩, stage := .fields }) (dx := dx) h13 (h2.mono fun a ys e => sall _ _ e) (.inr ⟨_, qa, la, ls, rfl, rfl, rfl, dr⟩)
/-- what a step gives: the rows' message, the state -/
def StepQ (D : Ad) (b e : Bool) (H : Hp) (r : Addr) (F : List Addr) (o : RS × Option Row) (Q : VK) : Prop :=
  match o.2 with
  | none => ∀ H' F', Fr' F H H' F' → RdAt D b e H' r F' o.1 → Q .non H'
  | some row => ∀ H' F' x, Fr' F H H' F' → RdAt D b e H' r F' o.1 → MsgAt D b (fun a => H a = none ∧ a ∉ F') H' x (startArgs b row.start) row.fields row.body → Q x H'
theorem fin_frame {d : Dr} (h : DrFin b d) (d' : Dr) (e1 : d'.start = d.start) (e2 : d'.fields = d.fields) (e3 : d'.signs = d.signs) : DrFin b d' := by
  obtain ⟨a, m, n, f, bo, my⟩ := h
  exact ⟨by rw [e1]; exact a, by rw [e1]; exact m, by rw [e2]; exact n, by rw [e2]; exact f, by rw [e3]; exact bo, by rw [e3, e1]; exact my⟩
def sp_begin (D : Ad) (b : Bool) : Sp := fun vs H Q _ => ∃ (r : Addr) (e : Bool) (F : List Addr) (s : RS) (d : Dr), vs = [.ref r] ∧ RdAt D b e H r F s ∧ s.draft = some d ∧ DrFin b d ∧ FrOk d.frame ∧ d.due = 0 ∧ d.opn = false ∧ StepQ D b e H r F (beginBody (Par b) s) Q
/-- a message is made -/
theorem step_complete {e : Bool} {H H1 : Hp} {r : Addr} {F : List Addr} {s : RS} {d : Dr} {Q : VK} (hd : s.draft = some d) (f1 : Fr' F H H1 F) (hr : r ∈ F) (hrd : RdAt D b e H1 r F s) (fin : DrFin b d) (q : StepQ D b e H r F (complete s) Q) :
    sp_complete D b [.ref r] H1 Q E0 := by
  unfold complete StepQ at q
  rw [hd] at q
  refine ⟨r, e, F, s, d, rfl, hrd, hd, fin, fun H2 x f2 rd2 hx => q H2 [r] x (f1.trans f2) rd2 (hx.weak fun a ha => ?_)⟩
  have hne : H a = none := by
    cases hz : H a with
    | none => rfl
    | some z => exact absurd ha (f1.has a (by rw [hz]; simp))
  refine ⟨hne, fun hm => ?_⟩
  rw [List.mem_singleton] at hm
  obtain ⟨dx, fx, dv, h1, _⟩ := hrd
  rw [hm, h1] at ha
  cases ha
theorem ok_Reader_begin_body (T : Txt K mg) (O : Obs P K mg D) : OkM P w K mg base CX0 D.rdr "begin_body" 11 ["self"] (sp_begin D b) := by
  obtain ⟨f, fd, hm, F⟩ := O.Reader_begin_body
  refine ⟨f, fd, hm, F.binds fun _ _ _ _ _ _ us hl => match us, hl with | [_], _ => rfl, F.ok sc_Reader_begin_body (fun vs H Q E h => ?_) (fun cdv A outer s H vs Q E hr h => ?_)⟩
  · obtain ⟨r, e, F, s, d, rfl, _⟩ := h
    rfl
  · obtain ⟨r, e, F, s, d, rfl, hrd, hd, fin, hfr, hdue, hopn, q⟩ := h
    have hrd0 := hrd
    obtain ⟨dx, fx, qa, la, ls, h1, h2, rfl, h4⟩ := hrd.draft hd
    obtain ⟨dxq, bx, dxb, Lb, xs, g1, g2, g3, g4, g5, g6⟩ := id h4
    have N : ∀ f ∈ (["blank", "fields", "framing_value", "open_ended", "body_signs", "signs_due"] : List PySem.Str), NoAttr K D.dft f := O.dfN
    have hrq : r ≠ qa := g6.2.1
    refine ⟨_, pss_cons (ps_set (i := 1) sc_Reader_begin_body.nd rfl (Or.inl rfl) (pe_fld (pv 0) rfl)) (pss_cons (ps_if (pt_cmpR op_eq (pe_fld (pv 1) rfl) (pe_gv T.CHUNKS_VALUE rfl) (nomark _)) (pss_cons (ps_fld (pv 0) pe_str rfl) (pss_one (ps_ret pe_non))) pss_nil) (pss_cons (ps_if (pt_cmpR op_isN (pe_fld (pv 1) rfl) pe_non (nomark _)) (pss_one (ps_fld (pv 1) (pe_and (pe_callB call_isi rfl T.isinstance (by decide +kernel) (pa_cons (pe_fld (pv 1) rfl) (pa_cons (pe_glob (v := .ref D.rsp) rfl O.rs rfl) pa_nil))) (pe_one (pe_propO (ok_may T O b) (pe_fld (pv 1) rfl) (clsC O b) hr))) rfl)) (pss_one (ps_fld (pv 1) (pe_callTy call_int_str rfl T.int (by decide +kernel) (pa_cons (pe_fld (pv 1) rfl) pa_nil)) rfl))) (pss_cons (ps_if (PW.pt (pw_or (pt_val (pe_fld (pv 1) rfl)) (pw_or1 (pt_cmpR op_gt (pe_fld (pv 1) rfl) pe_int (nomark _))))) (pss_cons (ps_fld (pv 0) pe_str rfl) (pss_one (ps_ret pe_non))) pss_nil) (pss_one (ps_ret (pe_methO0 (ok_Reader_complete_message (b := b) T O) (pv 0) O.rdC hr)))))), ?_⟩
    unfold beginBody at q
    rw [hd] at q
    dsimp only at q
    have hCh : (Par b).chunksV = chunksT := rfl
    have hsc : scal (frV d.frame) (V.str (PySem.Str.ofString "chunks")) = true := by cases d.frame <;> rfl
    refine seq_mid (fun σ' H' => σ' = [some (.ref r), some (.ref qa)] ∧ H' = H) ?_ (fun nx hnx => ⟨_, rfl, r, D.rdr, dx, _, _, rfl, h1, O.rdC, rdA O (by simp), rdr_draft, hnx _ _ ⟨rfl, rfl⟩⟩)
    rintro σ1 H1 ⟨rfl, rfl⟩
    rw [hCh] at q
    by_cases c1 : d.frame = some chunksT
    · rw [if_pos c1] at q
      refine ⟨_, rfl, qa, D.dft, dxq, _, _, rfl, g1, O.dfC, N _ (by simp), dft_framing_value, hsc, _, rfl, ?_⟩
      rw [frV_chunks, decide_eq_true c1]
      refine iteT ⟨_, rfl, r, D.rdr, dx, _, rfl, h1, O.rdC, rdA O (by simp), by show 8 < 1000; decide, ?_⟩
      rw [rdr_put_stage_name]
      exact q _ [r, qa, la, ls] (Fr'.refl.put (.inl (by simp))) (RdAt.set (s' := ⟨.size, s.fault, s.done, s.read, s.line, some d⟩) (dx := dx) h1 h2 (.inr ⟨d, qa, la, ls, rfl, rfl, rfl, h4⟩))
    · rw [if_neg c1] at q
      refine seq_mid (fun σ' H' => σ' = [some (.ref r), some (.ref qa)] ∧ H' = H1) ?_ ?_
      rotate_left
      · intro nx hnx
        refine ⟨_, rfl, qa, D.dft, dxq, _, _, rfl, g1, O.dfC, N _ (by simp), dft_framing_value, hsc, _, rfl, ?_⟩
        rw [frV_chunks, decide_eq_false c1]
        exact iteF (hnx _ _ ⟨rfl, rfl⟩)
      rintro σ1 H2 ⟨rfl, rfl⟩
      refine seq_mid (fun σ' H' => σ' = [some (.ref r), some (.ref qa)] ∧ Fr' [r, qa, la, ls] H2 H' [r, qa, la, ls] ∧ H' r = some (.ins D.rdr dx (rdrF (sideV b) (stgV s.stage) fx s.done s.read s.line (.ref qa) e)) ∧ FltAt H' fx s.fault ∧ DrAt D b H' r qa la ls (d.framed (Par b))) ?_ ?_
      rotate_left
      · intro nx hnx
        refine ⟨_, rfl, qa, D.dft, dxq, _, _, rfl, g1, O.dfC, N _ (by simp), dft_framing_value, rfl, _, rfl, ?_⟩
        cases hfm : d.frame with
        | none =>
          have hfd : d.framed (Par b) = { d with opn := b && mayT d.start } := by unfold Dr.framed; rw [hfm]; rfl
          have g1' : H2 qa = some (.ins D.dft dxq (dftF (.ref bx) la .non d.opn ls d.due)) := by rw [g1, hfm]; rfl
          have store : ∀ {H3 : Hp} (v : Bool), Same H2 H3 → v = (b && mayT d.start) → nx [some (.ref r), some (.ref qa)] (upd H3 qa (.ins D.dft dxq (putF "open_ended" (.bl v) (dftF (.ref bx) la .non d.opn ls d.due)))) := fun {H3} v s3 hv => by
            rw [dft_put_open_ended]
            refine hnx _ _ ⟨rfl, (Fr'.refl.same s3).put (.inl (by simp)), by rw [upd_ne hrq]; exact s3 _ _ h1, (h2.mono fun a ys e => s3 _ _ e).put (s3 _ _ g1'), ?_⟩
            rw [hfd, hv]
            have := (h4.same s3).frame (d' := { d with opn := b && mayT d.start }) (s3 _ _ g1') rfl rfl rfl
            rw [show (frV ({ d with opn := b && mayT d.start } : Dr).frame) = .non from by show frV d.frame = _; rw [hfm]; rfl] at this
            exact this
          refine iteT ⟨_, rfl, qa, D.dft, dxq, _, _, rfl, g1', O.dfC, N _ (by simp), dft_blank, .ref bx, .ref D.rsp, .ref (D.cls b), .ref (D.cls true), b == true, rfl, .own _, .base (.ins g2 (clsC O b) (O.tyC b).1 (O.tyC b).2.1 (O.tyC b).2.2.1 (O.tyC b).2.2.2), O.isi b true, _, rfl, ?_⟩
          cases b with
          | false => exact iteF ⟨_, rfl, qa, D.dft, dxq, _, rfl, g1', O.dfC, N _ (by simp), by show 6 < 1000; decide, store false same_refl rfl⟩
          | true =>
            refine iteT ⟨_, rfl, qa, D.dft, dxq, _, _, rfl, g1', O.dfC, N _ (by simp), dft_blank, bx, dxb, _, rfl, g2, bx, dxb, Lb, _, _, rfl, g2, fin.args, fun H3 s3 => ?_⟩
            rw [fin.mayE]
            exact ⟨_, rfl, qa, D.dft, dxq, _, rfl, s3 _ _ g1', O.dfC, N _ (by simp), by show 6 < 1000; decide, store (mayT d.start) s3 (by simp)⟩
        | some v =>
          have hv : ∃ k, numT v = some k ∧ k ≤ 100000 := by
            rcases hfr v hfm with h | h
            · exact absurd (by rw [hfm, h]) c1
            · exact h
          obtain ⟨k, hk, _⟩ := hv
          have hfd : d.framed (Par b) = { d with due := ((k : Nat) : Int) } := by
            unfold Dr.framed
            rw [hfm]
            show ({ d with frame := some v, due := (((numT v).getD 0 : Nat) : Int) } : Dr) = _
            rw [hk, ← hfm]
            rfl
          have hvl := numT_len hk
          have g1' : H2 qa = some (.ins D.dft dxq (dftF (.ref bx) la (.str (S v)) d.opn ls d.due)) := by rw [g1, hfm]; rfl
          refine iteF ⟨_, rfl, qa, D.dft, dxq, _, _, rfl, g1', O.dfC, N _ (by simp), dft_framing_value, _, _, rfl, numT_int hk, by rw [S_len]; omega, _, rfl, qa, D.dft, dxq, _, rfl, g1', O.dfC, N _ (by simp), by show 6 < 1000; decide, ?_⟩
          rw [dft_put_signs_due]
          refine hnx _ _ ⟨rfl, Fr'.refl.put (.inl (by simp)), by rw [upd_ne hrq]; exact h1, h2.put g1', ?_⟩
          rw [hfd]
          have := h4.frame (d' := { d with due := ((k : Nat) : Int) }) g1' rfl rfl rfl
          rw [show (frV ({ d with due := ((k : Nat) : Int) } : Dr).frame) = .str (S v) from by show frV d.frame = _; rw [hfm]; rfl] at this
          exact this
      rintro σ1 H3 ⟨rfl, f3, h13, h23, h43⟩
      have fin' : DrFin b (d.framed (Par b)) := fin_frame fin _ (by unfold Dr.framed; split <;> rfl) (by unfold Dr.framed; split <;> rfl) (by unfold Dr.framed; split <;> rfl)
      obtain ⟨dxq3, bx3, dxb3, Lb3, xs3, g13, g23, g33, g43, g53, g63⟩ := id h43
      refine seq_mid (fun σ' H' => σ' = [some (.ref r), some (.ref qa)] ∧ H' = H3 ∧ ¬ ((d.framed (Par b)).opn = true ∨ (d.framed (Par b)).due > 0)) ?_ ?_
      · rintro σ1 H4 ⟨rfl, rfl, hno⟩
        rw [if_neg hno] at q
        exact ⟨_, rfl, r, dx, _, rfl, h13, rdr_no (by decide +kernel), step_complete (s := { s with draft := some (d.framed (Par b)) }) rfl f3 (by simp) ⟨dx, fx, .ref qa, h13, h23, .inr ⟨_, qa, la, ls, rfl, rfl, rfl, h43⟩⟩ fin' q⟩
      · intro nx hnx
        have body : (d.framed (Par b)).opn = true ∨ (d.framed (Par b)).due > 0 → Q .non (upd H3 r (.ins D.rdr dx (putF "stage_name" (str "body") (rdrF (sideV b) (stgV s.stage) fx s.done s.read s.line (.ref qa) e)))) := fun hy => by
          rw [if_pos hy] at q
          rw [rdr_put_stage_name]
          exact q _ [r, qa, la, ls] (f3.put (.inl (by simp))) (RdAt.set (s' := ⟨.body, s.fault, s.done, s.read, s.line, some (d.framed (Par b))⟩) (dx := dx) h13 h23 (.inr ⟨_, qa, la, ls, rfl, rfl, rfl, h43⟩))
        refine ⟨_, rfl, qa, D.dft, dxq3, _, _, rfl, g13, O.dfC, N _ (by simp), dft_open_ended, _, rfl, ?_⟩
        cases ho : (d.framed (Par b)).opn with
        | true => exact iteT (iteT ⟨_, rfl, r, D.rdr, dx, _, rfl, h13, O.rdC, rdA O (by simp), by show 8 < 1000; decide, body (.inl ho)⟩)
        | false =>
          refine iteF ⟨_, rfl, qa, D.dft, dxq3, _, _, rfl, g13, O.dfC, N _ (by simp), dft_signs_due, _, _, rfl, rfl, _, rfl, ?_⟩
          refine ite2 (fun hp => ?_) (fun hp => ?_)
          · exact ⟨_, rfl, r, D.rdr, dx, _, rfl, h13, O.rdC, rdA O (by simp), by show 8 < 1000; decide, body (.inr (of_decide_eq_true hp))⟩
          · exact hnx _ _ ⟨rfl, rfl, fun z => by
              rcases z with z | z
              · rw [ho] at z; cases z
              · exact nd hp z⟩
end
end K6

set_option Elab.async false
set_option linter.all false
set_option maxRecDepth 100000
set_option maxHeartbeats 4000000
/-! KO10: the reader, sign by sign. -/
namespace K6
open PySem PySem.Spec PyProof.Rows L2
def BodyOk (t : Tx) : Prop := ∀ c ∈ t, c = 10 ∨ isPlain c = true
theorem bodyT {t : Tx} (h : BodyOk t) (hl : t.length ≤ 100000) : isBodyT t = true := by
  unfold isBodyT
  rw [decide_eq_true hl, Bool.true_and, List.all_eq_true]
  intro c hc
  rw [List.mem_filter] at hc
  rcases h c hc.1 with h | h
  · rw [h] at hc
    simp at hc
  · exact h
theorem BodyOk.snoc {t : Tx} {c : Nat} (h : BodyOk t) (hc : c = 10 ∨ isPlain c = true) : BodyOk (t ++ [c]) := fun x hx => by
  rcases List.mem_append.mp hx with hx | hx
  · exact h x hx
  · rw [List.mem_singleton.mp hx]; exact hc
structure DrBase (b : Bool) (d : Dr) : Prop where
  st : startOkT b d.start = true
  sl : d.start.length ≤ 300
  many : d.fields.length ≤ 40
  fs : FsOk d.fields
  body : BodyOk d.signs
  fr : FrOk d.frame
theorem DrBase.fin {b : Bool} {d : Dr} (h : DrBase b d) (hl : d.signs.length ≤ 100000) (hm : d.signs = [] ∨ mayT d.start = true) : DrFin b d := by
  obtain ⟨_, a2, a3⟩ := start_args h.st (Nat.le_trans h.sl (by decide))
  exact ⟨a2, a3, h.many, h.fs, bodyT h.body hl, hm⟩
section
variable {D : Ad} {b : Bool}
variable {P : Program} {w : World} {K : PySem.W.Frag} {mg : PySem.Str → Option Value} {base : Heap}
theorem StepQ.pre {e : Bool} {H H1 : Hp} {r : Addr} {F F1 : List Addr} {o : RS × Option Row} {Q : VK} (q : StepQ D b e H r F o Q) (f : Fr' F H H1 F1) : StepQ D b e H1 r F1 o Q := by
  unfold StepQ at q ⊢
  split at q
  · exact fun H' F' fr rd => q H' F' (f.trans fr) rd
  · refine fun H' F' x fr rd hx => q H' F' x (f.trans fr) rd (hx.weak fun a ha => ⟨?_, ha.2⟩)
    cases hz : H a with
    | none => rfl
    | some z => exact absurd ha.1 (f.has a (by rw [hz]; simp))
/-- a sign of the body is taken -/
theorem DrAt.push {H : Hp} {r q la ls : Addr} {d : Dr} (h : DrAt D b H r q la ls d) (c : Nat) : DrAt D b (upd H ls (.lst ((d.signs ++ [c]).map fun c => sV [c]))) r q la ls { d with signs := d.signs ++ [c] } := by
  obtain ⟨dx, bx, dxb, Lb, xs, h1, h2, h3, h4, h5, h6⟩ := h
  have ni : ∀ a C dx fs, H a = some (.ins C dx fs) → a ≠ ls := fun a C dx fs e z => by rw [z, h5] at e; cases e
  exact ⟨dx, bx, dxb, Lb, xs, by rw [upd_ne (ni _ _ _ _ h1)]; exact h1, by rw [upd_ne (ni _ _ _ _ h2)]; exact h2, by rw [upd_ne h6.1]; exact h3, h4.mono (put_tup h5), upd_same, h6⟩
def sp_body (D : Ad) (b : Bool) : Sp := fun vs H Q _ => ∃ (r : Addr) (c : Nat) (e : Bool) (F : List Addr) (s : RS) (d : Dr), vs = [.ref r, sV [c]] ∧ RdAt D b e H r F s ∧ s.draft = some d ∧ DrBase b d ∧ mayT d.start = true ∧ (c = 10 ∨ isPlain c = true) ∧ d.signs.length ≤ 100000 ∧
  (d.opn = false → 0 < d.due ∧ (d.signs.length : Int) + d.due ≤ 100000) ∧ StepQ D b e H r F (readBodySign s c) Q
theorem ok_Reader_read_body_sign (T : Txt K mg) (O : Obs P K mg D) : OkM P w K mg base CX0 D.rdr "read_body_sign" 11 ["self", "sign"] (sp_body D b) := by
  obtain ⟨f, fd, hm, F⟩ := O.Reader_read_body_sign
  refine ⟨f, fd, hm, F.binds fun _ _ _ _ _ _ us hl => match us, hl with | [_, _], _ => rfl, F.ok sc_Reader_read_body_sign (fun vs H Q E h => ?_) (fun cdv A outer s H vs Q E hr h => ?_)⟩
  · obtain ⟨r, c, e, F, s, d, rfl, _⟩ := h
    rfl
  · obtain ⟨r, c, e, F, s, d, rfl, hrd, hd, hB, hmay, hc, hlen, hdue, q⟩ := h
    have hrd0 := hrd
    obtain ⟨dx, fx, qa, la, ls, h1, h2, rfl, h4⟩ := hrd.draft hd
    obtain ⟨dxq, bx, dxb, Lb, xs, g1, g2, g3, g4, g5, g6⟩ := id h4
    have N : ∀ f ∈ (["blank", "fields", "framing_value", "open_ended", "body_signs", "signs_due"] : List PySem.Str), NoAttr K D.dft f := O.dfN
    have hrq : r ≠ qa := g6.2.1
    have hrl : r ≠ ls := fun z => by rw [z, g5] at h1; cases h1
    have hql : qa ≠ ls := fun z => by rw [z, g5] at g1; cases g1
    refine ⟨_, pss_cons (ps_set (i := 2) sc_Reader_read_body_sign.nd rfl (Or.inl rfl) (pe_fld (pv 0) rfl)) (pss_cons (ps_if (pt_val (pe_fld (pv 2) rfl)) (pss_cons (ps_if (pt_cmpR op_eq (pe_callB call_len_seq rfl T.len (by decide +kernel) (pa_cons (pe_fld (pv 2) rfl) pa_nil)) (pe_cc T.MOST_BODY rfl) (nomark _)) (pss_one (ps_expr (pe_methO (ok_Reader_break_off (b := b) T O) (pv 0) O.rdC hr (pa_cons pe_str (pa_cons (pe_op op_sub (pe_fld (pv 0) rfl) (pe_cc T.MOST_BODY rfl)) pa_nil))))) (pss_one (ps_expr (pe_bm PySem.F.plainAttrs_list PySem.F.slot_list_append PySem.F.type_list_append mt_append (pe_fld (pv 2) rfl) (pa_cons (pv 1) pa_nil))))) (pss_one (ps_ret pe_non))) pss_nil) (pss_cons (ps_expr (pe_bm PySem.F.plainAttrs_list PySem.F.slot_list_append PySem.F.type_list_append mt_append (pe_fld (pv 2) rfl) (pa_cons (pv 1) pa_nil))) (pss_cons (ps_fldaug (pv 2) pe_int in_sub) (pss_cons (ps_if (pt_cmpR op_gt (pe_fld (pv 2) rfl) pe_int (nomark _)) (pss_one (ps_ret pe_non)) pss_nil) (pss_cons (ps_if (pt_cmpR op_eq (pe_fld (pv 0) rfl) pe_str (nomark _)) (pss_one (ps_ret (pe_methO0 (ok_Reader_complete_message (b := b) T O) (pv 0) O.rdC hr))) pss_nil) (pss_cons (ps_fld (pv 0) pe_str rfl) (pss_one (ps_ret pe_non)))))))), ?_⟩
    unfold readBodySign at q
    rw [hd] at q
    dsimp only at q
    refine seq_mid (fun σ' H' => σ' = [some (.ref r), some (sV [c]), some (.ref qa)] ∧ H' = H) ?_ (fun nx hnx => ⟨_, rfl, r, D.rdr, dx, _, _, rfl, h1, O.rdC, rdA O (by simp), rdr_draft, hnx _ _ ⟨rfl, rfl⟩⟩)
    rintro σ1 H1 ⟨rfl, rfl⟩
    refine ⟨_, rfl, qa, D.dft, dxq, _, _, rfl, g1, O.dfC, N _ (by simp), dft_open_ended, _, rfl, ?_⟩
    have happ : H1 ls = some (.lst (d.signs.map fun c => sV [c])) := g5
    have eapp : (d.signs.map fun c => sV [c]) ++ [sV [c]] = (d.signs ++ [c]).map fun c => sV [c] := by rw [List.map_append]; rfl
    cases ho : d.opn with
    | true =>
      rw [if_pos ho] at q
      refine iteT ⟨_, rfl, qa, D.dft, dxq, _, _, rfl, g1, O.dfC, N _ (by simp), dft_body_signs, ls, _, rfl, .inl (SqL.of g5), rfl, _, rfl, ?_⟩
      rw [List.length_map, show (V.int 100000) = V.int ((100000 : Nat) : Int) from rfl, lenD]
      refine ite2 (fun h => ?_) (fun h => ?_)
      · rw [if_pos (of_decide_eq_true h)] at q
        refine ⟨_, rfl, r, dx, _, rfl, h1, rdr_no (by decide +kernel), _, rfl, r, D.rdr, dx, _, _, rfl, h1, O.rdC, rdA O (by simp), rdr_signs_read, _, _, rfl, rfl, r, .long, _, e, _, s, rfl, hrd0, fun H' fr rd => ?_⟩
        exact q H' _ fr rd
      · rw [if_neg (nd h)] at q
        refine ⟨_, rfl, qa, D.dft, dxq, _, _, rfl, g1, O.dfC, N _ (by simp), dft_body_signs, .inl ⟨rfl, _, SqL.of g5⟩, _, rfl, ls, _, _, rfl, rfl, g5, by rw [List.length_map]; show _ < 16777216; omega, ?_⟩
        rw [eapp]
        exact q _ [r, qa, la, ls] (Fr'.refl.put (.inl (by simp))) ⟨dx, fx, .ref qa, by rw [upd_ne hrl]; exact h1, h2.mono (put_tup g5), .inr ⟨_, qa, la, ls, rfl, rfl, rfl, h4.push c⟩⟩
    | false =>
      rw [if_neg (by rw [ho]; simp)] at q
      obtain ⟨hd1, hd2⟩ := hdue ho
      refine iteF ⟨_, rfl, qa, D.dft, dxq, _, _, rfl, g1, O.dfC, N _ (by simp), dft_body_signs, .inl ⟨rfl, _, SqL.of g5⟩, _, rfl, ls, _, _, rfl, rfl, g5, by rw [List.length_map]; show _ < 16777216; omega, ?_⟩
      rw [eapp]
      have k1 : (upd H1 ls (.lst ((d.signs ++ [c]).map fun c => sV [c]))) qa = some (.ins D.dft dxq (dftF (.ref bx) la (frV d.frame) d.opn ls d.due)) := by rw [upd_ne hql]; exact g1
      have k2 : (upd H1 ls (.lst ((d.signs ++ [c]).map fun c => sV [c]))) r = some (.ins D.rdr dx (rdrF (sideV b) (stgV s.stage) fx s.done s.read s.line (.ref qa) e)) := by rw [upd_ne hrl]; exact h1
      have k3 := h4.push c
      have k4 : FltAt (upd H1 ls (.lst ((d.signs ++ [c]).map fun c => sV [c]))) fx s.fault := h2.mono (put_tup g5)
      have kf : Fr' [r, qa, la, ls] H1 (upd H1 ls (.lst ((d.signs ++ [c]).map fun c => sV [c]))) [r, qa, la, ls] := Fr'.refl.put (.inl (by simp))
      generalize (upd H1 ls (.lst ((d.signs ++ [c]).map fun c => sV [c]))) = H2 at k1 k2 k3 k4 kf ⊢
      refine ⟨_, rfl, qa, D.dft, dxq, _, _, rfl, k1, O.dfC, N _ (by simp), dft_signs_due, _, _, rfl, rfl, dxq, _, k1, by show 6 < 1000; decide, ?_⟩
      rw [dft_put_signs_due]
      have m3 := k3.frame (d' := { d with signs := d.signs ++ [c], due := d.due - 1 }) k1 rfl rfl rfl
      have m1 : (upd H2 qa (.ins D.dft dxq (dftF (.ref bx) la (frV d.frame) d.opn ls (d.due - 1)))) r = some (.ins D.rdr dx (rdrF (sideV b) (stgV s.stage) fx s.done s.read s.line (.ref qa) e)) := by rw [upd_ne hrq]; exact k2
      have m4 : FltAt (upd H2 qa (.ins D.dft dxq (dftF (.ref bx) la (frV d.frame) d.opn ls (d.due - 1)))) fx s.fault := k4.put k1
      have mf := kf.put (a := qa) (o := .ins D.dft dxq (dftF (.ref bx) la (frV d.frame) d.opn ls (d.due - 1))) (.inl (by simp))
      have m5 : (upd H2 qa (.ins D.dft dxq (dftF (.ref bx) la (frV d.frame) d.opn ls (d.due - 1)))) qa = some (.ins D.dft dxq (dftF (.ref bx) la (frV d.frame) d.opn ls (d.due - 1))) := upd_same
      have m3 : DrAt D b (upd H2 qa (.ins D.dft dxq (dftF (.ref bx) la (frV d.frame) d.opn ls (d.due - 1)))) r qa la ls { d with signs := d.signs ++ [c], due := d.due - 1 } := m3
      generalize (upd H2 qa (.ins D.dft dxq (dftF (.ref bx) la (frV d.frame) d.opn ls (d.due - 1)))) = H3 at m1 m3 m4 m5 mf ⊢
      have hrd3 : RdAt D b e H3 r [r, qa, la, ls] { s with draft := some { d with signs := d.signs ++ [c], due := d.due - 1 } } := ⟨dx, fx, .ref qa, m1, m4, .inr ⟨_, qa, la, ls, rfl, rfl, rfl, m3⟩⟩
      refine ⟨_, rfl, qa, D.dft, dxq, _, _, rfl, m5, O.dfC, N _ (by simp), dft_signs_due, _, _, rfl, rfl, _, rfl, ?_⟩
      refine ite2 (fun h => ?_) (fun h => ?_)
      · rw [if_pos (of_decide_eq_true h)] at q
        exact q _ _ mf hrd3
      · rw [if_neg (nd h)] at q
        refine ⟨_, rfl, r, D.rdr, dx, _, _, rfl, m1, O.rdC, rdA O (by simp), rdr_stage_name, stg_scal _ _, _, rfl, ?_⟩
        rw [stg_dec s.stage "body" .body rfl]
        refine ite2 (fun hs => ?_) (fun hs => ?_)
        · rw [if_pos (of_decide_eq_true hs)] at q
          have fin : DrFin b { d with signs := d.signs ++ [c], due := d.due - 1 } := DrBase.fin ⟨hB.st, hB.sl, hB.many, hB.fs, hB.body.snoc hc, hB.fr⟩ (by show (d.signs ++ [c]).length ≤ 100000; rw [List.length_append, List.length_singleton]; omega) (.inr hmay)
          exact ⟨_, rfl, r, dx, _, rfl, m1, rdr_no (by decide +kernel), step_complete (s := { s with draft := some { d with signs := d.signs ++ [c], due := d.due - 1 } }) rfl mf (by simp) hrd3 fin q⟩
        · rw [if_neg (nd hs)] at q
          refine ⟨_, rfl, r, D.rdr, dx, _, rfl, m1, O.rdC, rdA O (by simp), by show 8 < 1000; decide, ?_⟩
          rw [rdr_put_stage_name]
          exact q _ [r, qa, la, ls] (mf.put (.inl (by simp))) (RdAt.set (s' := ⟨.ends, s.fault, s.done, s.read, s.line, some { d with signs := d.signs ++ [c], due := d.due - 1 }⟩) (dx := dx) m1 m4 (.inr ⟨_, qa, la, ls, rfl, rfl, rfl, m3⟩))
end
end K6

set_option Elab.async false
set_option linter.all false
set_option maxRecDepth 100000
set_option maxHeartbeats 4000000
/-! KO11: lines and signs of the reader. -/
namespace K6
open PySem PySem.Spec PyProof.Rows L2
def DrSt (g : Stg) (d : Dr) : Prop :=
  (g = .fields ∧ d.signs = [] ∧ d.due = 0 ∧ d.opn = false ∧ (mayT d.start = true ∨ d.frame = none ∨ d.frame = some (T "0"))) ∨
  (g = .body ∧ mayT d.start = true ∧ d.signs.length ≤ 100000 ∧ (d.opn = false → 0 < d.due ∧ (d.signs.length : Int) + d.due ≤ 100000)) ∨
  (g = .chunk ∧ mayT d.start = true ∧ d.opn = false ∧ 0 < d.due ∧ (d.signs.length : Int) + d.due ≤ 100000) ∨
  ((g = .size ∨ g = .ends ∨ g = .trailer) ∧ mayT d.start = true ∧ d.opn = false ∧ d.signs.length ≤ 100000)
structure RdOk (b : Bool) (s : RS) : Prop where
  line : s.line.length ≤ 300
  st : s.fault = none → (s.draft = none ∧ s.stage = .start) ∨ ∃ d, s.draft = some d ∧ DrBase b d ∧ DrSt s.stage d
section
variable {D : Ad} {b : Bool}
variable {P : Program} {w : World} {K : PySem.W.Frag} {mg : PySem.Str → Option Value} {base : Heap}
theorem step_none {e : Bool} {H : Hp} {r : Addr} {F : List Addr} {s : RS} {Q : VK} (q : StepQ D b e H r F (s, none) Q) : ∀ H' F', Fr' F H H' F' → RdAt D b e H' r F' s → Q .non H' := q
def sp_line (D : Ad) (b : Bool) : Sp := fun vs H Q _ => ∃ (r : Addr) (e : Bool) (F : List Addr) (s : RS), vs = [.ref r] ∧ RdAt D b e H r F s ∧ RdOk b s ∧ s.fault = none ∧ s.stage ≠ .body ∧ s.stage ≠ .chunk ∧ s.stage ≠ .ends ∧ StepQ D b e H r F (readLine (Par b) s) Q
theorem ok_Reader_read_line (T : Txt K mg) (O : Obs P K mg D) : OkM P w K mg base CX0 D.rdr "read_line" 12 ["self"] (sp_line D b) := by
  obtain ⟨f, fd, hm, F⟩ := O.Reader_read_line
  refine ⟨f, fd, hm, F.binds fun _ _ _ _ _ _ us hl => match us, hl with | [_], _ => rfl, F.ok sc_Reader_read_line (fun vs H Q E h => ?_) (fun cdv A outer s H vs Q E hr h => ?_)⟩
  · obtain ⟨r, e, F, s, rfl, _⟩ := h
    rfl
  · obtain ⟨r, e, F, s, rfl, hrd, hok, hfa, n1, n2, n3, q⟩ := h
    have hst := hok.st hfa
    have hll := hok.line
    obtain ⟨dx, fx, dv, h1, h2, h3⟩ := id hrd
    refine ⟨_, pss_cons (ps_set (i := 1) sc_Reader_read_line.nd rfl (Or.inl rfl) (pe_fld (pv 0) rfl)) (pss_cons (ps_set (i := 2) sc_Reader_read_line.nd rfl (Or.inl rfl) (pe_op op_sub (pe_fld (pv 0) rfl) (pe_callB call_len_str rfl T.len (by decide +kernel) (pa_cons (pv 1) pa_nil)))) (pss_cons (ps_fld (pv 0) pe_str rfl) (pss_cons (ps_if (pt_cmpR op_eq (pe_fld (pv 0) rfl) pe_str (nomark _)) (pss_one (ps_expr (pe_methO (ok_Reader_read_size_line (b := b) T O) (pv 0) O.rdC hr (pa_cons (pv 1) (pa_cons (pv 2) pa_nil))))) (pss_one (ps_if (pt_cmpR op_eq (pe_fld (pv 0) rfl) pe_str (nomark _)) (pss_one (ps_if (pt_cmpR op_ne (pv 1) pe_str (nomark _)) (pss_one (ps_expr (pe_methO (ok_Reader_read_start_line (b := b) T O) (pv 0) O.rdC hr (pa_cons (pv 1) (pa_cons (pv 2) pa_nil))))) pss_nil)) (pss_one (ps_if (pt_cmpR op_ne (pv 1) pe_str (nomark _)) (pss_one (ps_expr (pe_methO (ok_Reader_read_field_line (b := b) T O) (pv 0) O.rdC hr (pa_cons (pv 1) (pa_cons (pv 2) pa_nil))))) (pss_one (ps_if (pt_cmpR op_eq (pe_fld (pv 0) rfl) pe_str (nomark _)) (pss_one (ps_ret (pe_methO0 (ok_Reader_complete_message (b := b) T O) (pv 0) O.rdC hr))) (pss_one (ps_ret (pe_methO0 (ok_Reader_begin_body (b := b) T O) (pv 0) O.rdC hr)))))))))) (pss_one (ps_ret pe_non))))), ?_⟩
    refine seq_mid (fun σ' H' => σ' = [some (.ref r), some (.str (S s.line)), none] ∧ H' = H) ?_ (fun nx hnx => ⟨_, rfl, r, D.rdr, dx, _, _, rfl, h1, O.rdC, rdA O (by simp), rdr_unfinished_line, hnx _ _ ⟨rfl, rfl⟩⟩)
    rintro σ1 H0 ⟨rfl, rfl⟩
    refine seq_mid (fun σ' H' => σ' = [some (.ref r), some (.str (S s.line)), some (.int ((s.read : Int) - s.line.length))] ∧ H' = H0) ?_ ?_
    rotate_left
    · intro nx hnx
      refine ⟨_, rfl, r, D.rdr, dx, _, _, rfl, h1, O.rdC, rdA O (by simp), rdr_signs_read, _, rfl, _, rfl, by rw [S_len]; exact Nat.le_trans hll (by decide), _, _, rfl, rfl, ?_⟩
      rw [S_len]
      exact hnx _ _ ⟨rfl, rfl⟩
    rintro σ1 H0 ⟨rfl, rfl⟩
    refine seq_mid (fun σ' H' => σ' = [some (.ref r), some (.str (S s.line)), some (.int ((s.read : Int) - s.line.length))] ∧ Fr' F H0 H' F ∧ RdAt D b e H' r F { s with line := [] }) ?_ ?_
    rotate_left
    · intro nx hnx
      refine ⟨_, rfl, r, D.rdr, dx, _, rfl, h1, O.rdC, rdA O (by simp), by show 8 < 1000; decide, ?_⟩
      rw [show V.str (PySem.Str.ofString "") = V.str (S []) from rfl, rdr_put_unfinished_line]
      exact hnx _ _ ⟨rfl, Fr'.refl.put (.inl h3.mem), RdAt.set (s' := { s with line := [] }) (dx := dx) h1 h2 h3⟩
    rintro σ1 H1 ⟨rfl, f1, rd1⟩
    have q := q.pre f1
    unfold readLine at q
    dsimp only at q
    obtain ⟨dx1, fx1, dv1, k1, k2, k3⟩ := id rd1
    have k1 : H1 r = some (.ins D.rdr dx1 (rdrF (sideV b) (stgV s.stage) fx1 s.done s.read [] dv1 e)) := k1
    -- what stands behind the if
    refine seq_mid (fun σ' H' => σ' = [some (.ref r), some (.str (S s.line)), some (.int ((s.read : Int) - s.line.length))] ∧ Q .non H') (fun σ' H' ⟨_, h⟩ => h) ?_
    intro nx hnx
    have don : ∀ {H'}, Q .non H' → nx [some (.ref r), some (.str (S s.line)), some (.int ((s.read : Int) - s.line.length))] H' := fun h => hnx _ _ ⟨rfl, h⟩
    refine ⟨_, rfl, r, D.rdr, dx1, _, _, rfl, k1, O.rdC, rdA O (by simp), rdr_stage_name, stg_scal _ _, _, rfl, ?_⟩
    rw [stg_dec s.stage "size" .size rfl]
    by_cases c1 : s.stage = .size
    · rw [if_pos c1] at q
      rw [decide_eq_true c1]
      rcases hst with ⟨_, h⟩ | ⟨d, hd, hB, hS⟩
      · rw [c1] at h; cases h
      exact iteT ⟨_, rfl, r, dx1, _, rfl, k1, rdr_no (by decide +kernel), _, rfl, _, rfl, r, s.line, _, e, F, { s with line := [] }, d, rfl, by omega, rd1, hd, fun H' fr rd => don (q H' F fr rd)⟩
    rw [if_neg c1] at q
    rw [decide_eq_false c1]
    refine iteF ⟨_, rfl, r, D.rdr, dx1, _, _, rfl, k1, O.rdC, rdA O (by simp), rdr_stage_name, stg_scal _ _, _, rfl, ?_⟩
    rw [stg_dec s.stage "start" .start rfl]
    by_cases c2 : s.stage = .start
    · rw [if_pos c2] at q
      rw [decide_eq_true c2]
      have hdn : s.draft = none := by
        rcases hst with ⟨h, _⟩ | ⟨d, hd, hB, hS⟩
        · exact h
        · unfold DrSt at hS
          rw [c2] at hS
          rcases hS with ⟨h, _⟩ | ⟨h, _⟩ | ⟨h, _⟩ | ⟨h | h | h, _⟩ <;> cases h
      refine iteT ⟨_, rfl, rfl, _, rfl, ?_⟩
      rw [dec_emp]
      by_cases c3 : s.line = []
      · rw [decide_eq_true c3]
        rw [if_pos c3] at q
        exact iteF (don (q _ F Fr'.refl rd1))
      · rw [decide_eq_false c3]
        rw [if_neg c3] at q
        exact iteT ⟨_, rfl, r, dx1, _, rfl, k1, rdr_no (by decide +kernel), _, rfl, _, rfl, r, s.line, _, e, F, { s with line := [] }, rfl, hll, rd1, hdn, c2, fun H' F' fr rd => don (q H' F' fr rd)⟩
    rw [if_neg c2] at q
    rw [decide_eq_false c2]
    rcases hst with ⟨_, h⟩ | ⟨d, hd, hB, hS⟩
    · exact absurd h c2
    have hd' : ({ s with line := [] } : RS).draft = some d := hd
    obtain ⟨s1, s2, s3⟩ := start_args hB.st (Nat.le_trans hB.sl (by decide))
    refine iteF ⟨_, rfl, rfl, _, rfl, ?_⟩
    rw [dec_emp]
    by_cases c3 : s.line = []
    case neg =>
      rw [decide_eq_false c3]
      rw [if_neg c3] at q
      exact iteT ⟨_, rfl, r, dx1, _, rfl, k1, rdr_no (by decide +kernel), _, rfl, _, rfl, r, s.line, _, e, F, { s with line := [] }, d, rfl, hll, rd1, hd', s2, s3, hB.many, fun H' fr rd => don (q H' F fr rd)⟩
    rw [decide_eq_true c3]
    rw [if_pos c3] at q
    refine iteF ⟨_, rfl, r, D.rdr, dx1, _, _, rfl, k1, O.rdC, rdA O (by simp), rdr_stage_name, stg_scal _ _, _, rfl, ?_⟩
    rw [stg_dec s.stage "trailer" .trailer rfl]
    have hFm : r ∈ F := h3.mem
    by_cases c4 : s.stage = .trailer
    · rw [decide_eq_true c4]
      rw [if_pos c4] at q
      have fin : DrFin b d := by
        unfold DrSt at hS
        rw [c4] at hS
        rcases hS with ⟨h, _⟩ | ⟨h, _⟩ | ⟨h, _⟩ | ⟨_, hm, ho, hl⟩
        · cases h
        · cases h
        · cases h
        · exact hB.fin hl (.inr hm)
      exact iteT ⟨_, rfl, r, dx1, _, rfl, k1, rdr_no (by decide +kernel), step_complete (s := { s with line := [] }) hd' Fr'.refl hFm rd1 fin q⟩
    · rw [decide_eq_false c4]
      rw [if_neg c4] at q
      have hS' : d.signs = [] ∧ d.due = 0 ∧ d.opn = false := by
        unfold DrSt at hS
        rcases hS with ⟨_, h1, h2, h3, _⟩ | ⟨h, _⟩ | ⟨h, _⟩ | ⟨h | h | h, _⟩
        · exact ⟨h1, h2, h3⟩
        · exact absurd h n1
        · exact absurd h n2
        · exact absurd h c1
        · exact absurd h n3
        · exact absurd h c4
      exact iteF ⟨_, rfl, r, dx1, _, rfl, k1, rdr_no (by decide +kernel), r, e, F, { s with line := [] }, d, rfl, rd1, hd', hB.fin (by rw [hS'.1]; decide) (.inl hS'.1), hB.fr, hS'.2.1, hS'.2.2, q⟩
theorem stepq_mk {e : Bool} {H : Hp} {r : Addr} {F : List Addr} {o : RS × Option Row} {Q : VK} (hn : o.2 = none → ∀ H' F', Fr' F H H' F' → RdAt D b e H' r F' o.1 → Q .non H')
    (hs : ∀ row, o.2 = some row → ∀ H' F' x, Fr' F H H' F' → RdAt D b e H' r F' o.1 → MsgAt D b (fun a => H a = none ∧ a ∉ F') H' x (startArgs b row.start) row.fields row.body → Q x H') : StepQ D b e H r F o Q := by
  unfold StepQ
  split
  · rename_i h
    exact hn h
  · rename_i row h
    exact hs row h
theorem RdAt.mem {e : Bool} {H : Hp} {r : Addr} {F : List Addr} {s : RS} (h : RdAt D b e H r F s) : r ∈ F := by
  obtain ⟨_, _, _, _, _, h⟩ := h
  exact h.mem
def sp_sign (D : Ad) (b : Bool) : Sp := fun vs H Q _ => ∃ (r : Addr) (c : Nat) (e : Bool) (F : List Addr) (s : RS), vs = [.ref r, sV [c]] ∧ RdAt D b e H r F s ∧ RdOk b s ∧ s.fault = none ∧ StepQ D b e H r F (readSign (Par b) s c) Q
theorem ok_Reader_read_sign (T : Txt K mg) (O : Obs P K mg D) : OkM P w K mg base CX0 D.rdr "read_sign" 13 ["self", "sign"] (sp_sign D b) := by
  obtain ⟨f, fd, hm, F⟩ := O.Reader_read_sign
  refine ⟨f, fd, hm, F.binds fun _ _ _ _ _ _ us hl => match us, hl with | [_, _], _ => rfl, F.ok sc_Reader_read_sign (fun vs H Q E h => ?_) (fun cdv A outer s H vs Q E hr h => ?_)⟩
  · obtain ⟨r, c, e, F, s, rfl, _⟩ := h
    rfl
  · obtain ⟨r, c, e, F, s, rfl, hrd, hok, hfa, q⟩ := h
    have hst := hok.st hfa
    have hll := hok.line
    obtain ⟨dx, fx, dv, h1, h2, h3⟩ := id hrd
    refine ⟨_, pss_cons (ps_set (i := 2) sc_Reader_read_sign.nd rfl (Or.inl rfl) pe_non) (pss_cons (ps_if (PW.pt (pw_and (pt_cmpR op_ne (pv 1) pe_str (nomark _)) (pw_and1 (pt_not (pt_val (pe_callO (ok_is_plain_sign T) hr rfl (pa_cons (pv 1) pa_nil))))))) (pss_one (ps_expr (pe_methO (ok_Reader_break_off (b := b) T O) (pv 0) O.rdC hr (pa_cons pe_str (pa_cons (pe_fld (pv 0) rfl) pa_nil))))) (pss_one (ps_if (PW.pt (pw_or (pt_cmpR op_eq (pe_fld (pv 0) rfl) pe_str (nomark _)) (pw_or1 (pt_cmpR op_eq (pe_fld (pv 0) rfl) pe_str (nomark _))))) (pss_one (ps_set (i := 2) sc_Reader_read_sign.nd rfl (Or.inl rfl) (pe_methO (ok_Reader_read_body_sign (b := b) T O) (pv 0) O.rdC hr (pa_cons (pv 1) pa_nil)))) (pss_one (ps_if (pt_cmpR op_eq (pe_fld (pv 0) rfl) pe_str (nomark _)) (pss_one (ps_expr (pe_methO (ok_Reader_read_chunk_end (b := b) T O) (pv 0) O.rdC hr (pa_cons (pv 1) pa_nil)))) (pss_one (ps_if (pt_cmpR op_eq (pv 1) pe_str (nomark _)) (pss_one (ps_set (i := 2) sc_Reader_read_sign.nd rfl (Or.inl rfl) (pe_methO0 (ok_Reader_read_line (b := b) T O) (pv 0) O.rdC hr))) (pss_one (ps_if (pt_cmpR op_eq (pe_callB call_len_str rfl T.len (by decide +kernel) (pa_cons (pe_fld (pv 0) rfl) pa_nil)) (pe_gv T.MOST_LINE rfl) (nomark _)) (pss_one (ps_expr (pe_methO (ok_Reader_break_off (b := b) T O) (pv 0) O.rdC hr (pa_cons pe_str (pa_cons (pe_op op_sub (pe_fld (pv 0) rfl) (pe_gv T.MOST_LINE rfl)) pa_nil))))) (pss_one (ps_fldaug (pv 0) (pv 1) in_addS))))))))))) (pss_cons (ps_fldaug (pv 0) pe_int in_add) (pss_one (ps_ret (pv 2))))), ?_⟩
    refine seq_mid (fun σ' H' => σ' = [some (.ref r), some (sV [c]), some .non] ∧ H' = H) ?_ (fun nx hnx => hnx _ _ ⟨rfl, rfl⟩)
    rintro σ1 H0 ⟨rfl, rfl⟩
    refine seq_mid (fun σ' H' => ∃ x, σ' = [some (.ref r), some (sV [c]), some x] ∧ ∃ F', Fr' F H0 H' F' ∧ RdAt D b e H' r F' (readSign0 (Par b) s c).1 ∧
      match (readSign0 (Par b) s c).2 with
      | none => x = .non
      | some row => MsgAt D b (fun a => H0 a = none ∧ a ∉ F') H' x (startArgs b row.start) row.fields row.body) ?_ ?_
    · rintro σ1 H1 ⟨x, rfl, F', f1, rd1, hx⟩
      obtain ⟨dx1, fx1, dv1, k1, k2, k3⟩ := id rd1
      refine ⟨_, rfl, r, D.rdr, dx1, _, _, rfl, k1, O.rdC, rdA O (by simp), rdr_signs_read, _, _, rfl, rfl, dx1, _, k1, by show 8 < 1000; decide, ?_⟩
      rw [rdr_put_signs_read]
      refine ⟨_, rfl, ?_⟩
      have rd2 := RdAt.set (e' := e) (s' := { (readSign0 (Par b) s c).1 with read := (readSign0 (Par b) s c).1.read + 1 }) (dx := dx1) k1 k2 k3
      have f2 := f1.put (a := r) (o := .ins D.rdr dx1 (rdrF (sideV b) (stgV (readSign0 (Par b) s c).1.stage) fx1 (readSign0 (Par b) s c).1.done (((readSign0 (Par b) s c).1.read + 1 : Nat) : Int) (readSign0 (Par b) s c).1.line dv1 e)) (.inl hrd.mem)
      unfold readSign RS.tick StepQ at q
      dsimp only at q
      split at q
      · rename_i h
        rw [h] at hx
        have hx : x = .non := hx
        rw [hx]
        exact q _ F' f2 rd2
      · rename_i row h
        rw [h] at hx
        refine q _ F' x f2 rd2 (MsgAt.keep hx (fun a o ea n => ?_) fun a ys ea => ?_)
        · rw [upd_ne (show a ≠ r from fun z => n.2 (by rw [z]; exact rd1.mem))]
          exact ea
        · rw [upd_ne fun z => by rw [z, k1] at ea; cases ea]
          exact ea
    · intro nx hnx
      have kN : (readSign0 (Par b) s c).2 = none → ∀ H' F', Fr' F H0 H' F' → RdAt D b e H' r F' (readSign0 (Par b) s c).1 → nx [some (.ref r), some (sV [c]), some .non] H' := fun hn H' F' fr rd => hnx _ _ ⟨.non, rfl, F', fr, rd, by rw [hn]⟩
      have kS : StepQ D b e H0 r F (readSign0 (Par b) s c) (fun v H' => nx [some (.ref r), some (sV [c]), some v] H') := stepq_mk kN fun row hs H' F' x fr rd hx => hnx _ _ ⟨x, rfl, F', fr, rd, by rw [hs]; exact hx⟩
      have e10 : decide (sV [c] = V.str (PySem.Str.ofString "\n")) = decide (c = 10) := nl_dec c
      refine ⟨_, rfl, rfl, _, rfl, ?_⟩
      rw [e10]
      have step : ∀ (P1 : Prop), (c = 10 ∨ isPlain c = true → P1) → True := fun _ _ => trivial
      unfold readSign0 at kN kS
      have hPp : (Par b).plain c = isPlain c := rfl
      rw [hPp] at kN kS
      by_cases c0 : c ≠ 10 ∧ isPlain c = false
      · rw [if_pos c0] at kN
        rw [decide_eq_false c0.1]
        refine iteT ⟨_, rfl, c, rfl, _, rfl, ?_⟩
        rw [c0.2]
        exact iteT ⟨_, rfl, r, dx, _, rfl, h1, rdr_no (by decide +kernel), _, rfl, r, D.rdr, dx, _, _, rfl, h1, O.rdC, rdA O (by simp), rdr_signs_read, r, .character, _, e, F, s, rfl, hrd, fun H' fr rd => kN rfl H' F fr rd⟩
      · have hc : c = 10 ∨ isPlain c = true := by
          by_cases c1 : c = 10
          · exact .inl c1
          · right
            cases hp : isPlain c with
            | true => rfl
            | false => exact absurd ⟨c1, hp⟩ c0
        rw [if_neg c0] at kN kS
        have rest : tIfS (tOr (tTest (tOp rEq (tFld K (tVar 0) "stage_name") (tC (str "body")))) (tTest (tOp rEq (tFld K (tVar 0) "stage_name") (tC (str "chunk")))))
            (tAsg (tMeth D.rdr "read_body_sign" (sp_body D b) [] E0 (tVar 0) (tCons (tVar 1) tNil)) (gName 2))
            (tIfS (tTest (tOp rEq (tFld K (tVar 0) "stage_name") (tC (str "end")))) (tDrop (tMeth D.rdr "read_chunk_end" (sp_chunk_end D b) [] E0 (tVar 0) (tCons (tVar 1) tNil)))
              (tIfS (tTest (tOp rEq (tVar 1) (tC (str "\n")))) (tAsg (tMeth D.rdr "read_line" (sp_line D b) [] E0 (tVar 0) tNil) (gName 2))
                (tIfS (tTest (tOp rEq (tCB (fun xs H Q => ∃ z, xs = [V.str z] ∧ z.length ≤ sizeLine ∧ Q (V.int z.length) H) (tCons (tFld K (tVar 0) "unfinished_line") tNil)) (tC (.int 300))))
                  (tDrop (tMeth D.rdr "break_off" (sp_break_off D b) [] E0 (tVar 0) (tCons (tC (str "long")) (tCons (tOp (rI0 fun i j => .int (i - j)) (tFld K (tVar 0) "signs_read") (tC (.int 300))) tNil))))
                  (sFldAug K (tVar 0) (tVar 1) rAddS "unfinished_line")))) { nx := nx, rt := Q } [some (.ref r), some (sV [c]), some .non] H0 := by
          have bodyCall : s.stage = .body ∨ s.stage = .chunk → (tAsg (tMeth D.rdr "read_body_sign" (sp_body D b) [] E0 (tVar 0) (tCons (tVar 1) tNil)) (gName 2)) { nx := nx, rt := Q } [some (.ref r), some (sV [c]), some .non] H0 := fun hs => by
            rw [if_pos hs] at kS
            rcases hst with ⟨_, h⟩ | ⟨d, hd, hB, hS⟩
            · rw [h] at hs
              rcases hs with hs | hs <;> cases hs
            · have hq : mayT d.start = true ∧ d.signs.length ≤ 100000 ∧ (d.opn = false → 0 < d.due ∧ (d.signs.length : Int) + d.due ≤ 100000) := by
                unfold DrSt at hS
                rcases hS with ⟨h, _⟩ | ⟨_, h1, h2, h3⟩ | ⟨_, h1, h2, h3, h4⟩ | ⟨h | h | h, _⟩
                · rw [h] at hs; rcases hs with hs | hs <;> cases hs
                · exact ⟨h1, h2, h3⟩
                · exact ⟨h1, by omega, fun _ => ⟨h3, h4⟩⟩
                · rw [h] at hs; rcases hs with hs | hs <;> cases hs
                · rw [h] at hs; rcases hs with hs | hs <;> cases hs
                · rw [h] at hs; rcases hs with hs | hs <;> cases hs
              exact ⟨_, rfl, r, dx, _, rfl, h1, rdr_no (by decide +kernel), _, rfl, r, c, e, F, s, d, rfl, hrd, hd, hB, hq.1, hc, hq.2.1, hq.2.2, kS⟩
          refine ⟨_, rfl, r, D.rdr, dx, _, _, rfl, h1, O.rdC, rdA O (by simp), rdr_stage_name, stg_scal _ _, _, rfl, ?_⟩
          rw [stg_dec s.stage "body" .body rfl]
          by_cases b1 : s.stage = .body
          · rw [decide_eq_true b1]
            exact iteT (iteT (bodyCall (.inl b1)))
          rw [decide_eq_false b1]
          refine iteF ⟨_, rfl, r, D.rdr, dx, _, _, rfl, h1, O.rdC, rdA O (by simp), rdr_stage_name, stg_scal _ _, _, rfl, ?_⟩
          rw [stg_dec s.stage "chunk" .chunk rfl]
          by_cases b2 : s.stage = .chunk
          · rw [decide_eq_true b2]
            exact iteT (bodyCall (.inr b2))
          rw [decide_eq_false b2]
          rw [if_neg (fun z => z.elim b1 b2)] at kN kS
          refine iteF ⟨_, rfl, r, D.rdr, dx, _, _, rfl, h1, O.rdC, rdA O (by simp), rdr_stage_name, stg_scal _ _, _, rfl, ?_⟩
          rw [stg_dec s.stage "end" .ends rfl]
          by_cases b3 : s.stage = .ends
          · rw [decide_eq_true b3]
            rw [if_pos b3] at kN
            exact iteT ⟨_, rfl, r, dx, _, rfl, h1, rdr_no (by decide +kernel), _, rfl, r, c, e, F, s, rfl, hrd, fun H' fr rd => kN rfl H' F fr rd⟩
          rw [decide_eq_false b3]
          rw [if_neg b3] at kN kS
          refine iteF ⟨_, rfl, rfl, _, rfl, ?_⟩
          rw [e10]
          by_cases b4 : c = 10
          · rw [decide_eq_true b4]
            rw [if_pos b4] at kS
            exact iteT ⟨_, rfl, r, dx, _, rfl, h1, rdr_no (by decide +kernel), r, e, F, s, rfl, hrd, hok, hfa, b1, b2, b3, kS⟩
          rw [decide_eq_false b4]
          rw [if_neg b4] at kN
          refine iteF ⟨_, rfl, r, D.rdr, dx, _, _, rfl, h1, O.rdC, rdA O (by simp), rdr_unfinished_line, _, rfl, by rw [S_len]; exact Nat.le_trans hll (by decide), rfl, _, rfl, ?_⟩
          rw [S_len, show (V.int 300) = V.int ((300 : Nat) : Int) from rfl, lenD]
          by_cases b5 : s.line.length = 300
          · rw [decide_eq_true b5]
            rw [if_pos b5] at kN
            exact iteT ⟨_, rfl, r, dx, _, rfl, h1, rdr_no (by decide +kernel), _, rfl, r, D.rdr, dx, _, _, rfl, h1, O.rdC, rdA O (by simp), rdr_signs_read, _, _, rfl, rfl, r, .long, _, e, F, s, rfl, hrd, fun H' fr rd => kN rfl H' F fr rd⟩
          · rw [decide_eq_false b5]
            rw [if_neg b5] at kN
            refine iteF ⟨_, rfl, r, D.rdr, dx, _, _, rfl, h1, O.rdC, rdA O (by simp), rdr_unfinished_line, _, rfl, S s.line, S [c], rfl, rfl, by rw [S_len, S_len]; show s.line.length + 1 ≤ 16777216; omega, dx, _, h1, by show 8 < 1000; decide, ?_⟩
            rw [S_app, rdr_put_unfinished_line]
            exact kN rfl _ F (Fr'.refl.put (.inl h3.mem)) (RdAt.set (s' := { s with line := s.line ++ [c] }) (dx := dx) h1 h2 h3)
        by_cases c1 : c = 10
        · rw [decide_eq_true c1]
          exact iteF rest
        · rw [decide_eq_false c1]
          refine iteT ⟨_, rfl, c, rfl, _, rfl, ?_⟩
          rw [hc.resolve_left c1]
          exact iteF rest
end
end K6

set_option Elab.async false
set_option linter.all false
set_option maxRecDepth 100000
set_option maxHeartbeats 4000000
/-! KO12: what readers keep; feeding. -/
namespace K6
open PySem PySem.Spec PyProof.Rows L2
theorem rdok_off {b : Bool} {s : RS} {k : FK} {i : Int} (h : s.line.length ≤ 300) : RdOk b (s.off k i) := ⟨h, fun z => by cases z⟩
theorem rdok_none {b : Bool} {s : RS} (h : s.line.length ≤ 300) (h1 : s.draft = none) (h2 : s.stage = .start) : RdOk b s := ⟨h, fun _ => .inl ⟨h1, h2⟩⟩
theorem rdok_some {b : Bool} {s : RS} {d : Dr} (h : s.line.length ≤ 300) (h1 : s.draft = some d) (h2 : DrBase b d) (h3 : DrSt s.stage d) : RdOk b s := ⟨h, fun _ => .inr ⟨d, h1, h2, h3⟩⟩
theorem rdok_complete {b : Bool} {s : RS} {d : Dr} (h : s.line.length ≤ 300) (hd : s.draft = some d) : RdOk b (complete s).1 := by
  unfold complete
  rw [hd]
  exact rdok_none h rfl rfl
theorem frame_may {m t : Bool} {f : Option Tx} {n : Nat} {l v : Tx} (h : lineResT m t f n l = .frame v) : m = true ∨ v = T "0" := by
  unfold lineResT at h
  split at h
  · cases h
  · split at h
    · unfold frameRes at h
      split at h
      · cases h
      · split at h
        · cases h
        · rename_i h2
          split at h
          · cases h
          · injection h with h
            rw [h] at h2
            cases m with
            | true => exact .inl rfl
            | false =>
              by_cases hv : v = T "0"
              · exact .inr hv
              · exact absurd ⟨rfl, hv⟩ h2
    · split at h <;> cases h
theorem rdok_body {b : Bool} {s : RS} {c : Nat} (h : RdOk b s) (hf : s.fault = none) (hs : s.stage = .body ∨ s.stage = .chunk) (hc : c = 10 ∨ isPlain c = true) : RdOk b (readBodySign s c).1 := by
  rcases h.st hf with ⟨_, h1⟩ | ⟨d, hd, hB, hS⟩
  · rw [h1] at hs
    rcases hs with hs | hs <;> cases hs
  unfold readBodySign
  rw [hd]
  dsimp only
  have hB' : ∀ du, DrBase b { d with signs := d.signs ++ [c], due := du } := fun du => ⟨hB.st, hB.sl, hB.many, hB.fs, hB.body.snoc hc, hB.fr⟩
  unfold DrSt at hS
  rcases hS with ⟨h, _⟩ | ⟨h0, h1, h2, h3⟩ | ⟨h0, h1, h2, h3, h4⟩ | ⟨h | h | h, _⟩
  · rw [h] at hs; rcases hs with hs | hs <;> cases hs
  · by_cases ho : d.opn = true
    · rw [if_pos ho]
      split
      · exact rdok_off h.line
      · refine rdok_some (d := { d with signs := d.signs ++ [c] }) h.line rfl (hB' d.due) (.inr (.inl ⟨h0, h1, ?_, fun z => by rw [ho] at z; cases z⟩))
        show (d.signs ++ [c]).length ≤ 100000
        rw [List.length_append, List.length_singleton]
        omega
    · rw [if_neg ho]
      have ho' : d.opn = false := eq_false_of_ne_true ho
      obtain ⟨h4, h5⟩ := h3 ho'
      split
      · refine rdok_some (d := { d with signs := d.signs ++ [c], due := d.due - 1 }) h.line rfl (hB' _) (.inr (.inl ⟨h0, h1, ?_, fun _ => ⟨by show 0 < d.due - 1; omega, ?_⟩⟩))
        · show (d.signs ++ [c]).length ≤ 100000
          rw [List.length_append, List.length_singleton]
          omega
        · show ((d.signs ++ [c]).length : Int) + (d.due - 1) ≤ 100000
          rw [List.length_append, List.length_singleton]
          omega
      · first | exact rdok_complete h.line rfl | (rw [if_pos h0]; exact rdok_complete h.line rfl)
  · have ho : ¬ d.opn = true := by rw [h2]; simp
    rw [if_neg ho]
    split
    · refine rdok_some (d := { d with signs := d.signs ++ [c], due := d.due - 1 }) h.line rfl (hB' _) (.inr (.inr (.inl ⟨h0, h1, h2, by show 0 < d.due - 1; omega, ?_⟩)))
      show ((d.signs ++ [c]).length : Int) + (d.due - 1) ≤ 100000
      rw [List.length_append, List.length_singleton]
      omega
    · rw [if_neg (by rw [h0]; simp)]
      refine rdok_some (d := { d with signs := d.signs ++ [c], due := d.due - 1 }) h.line rfl (hB' _) (.inr (.inr (.inr ⟨.inr (.inl rfl), h1, h2, ?_⟩)))
      show (d.signs ++ [c]).length ≤ 100000
      rw [List.length_append, List.length_singleton]
      omega
  · rw [h] at hs; rcases hs with hs | hs <;> cases hs
  · rw [h] at hs; rcases hs with hs | hs <;> cases hs
  · rw [h] at hs; rcases hs with hs | hs <;> cases hs
theorem rdok_begin {b : Bool} {s : RS} {d : Dr} (hl : s.line.length ≤ 300) (hd : s.draft = some d) (hB : DrBase b d) (h1 : d.signs = []) (h2 : d.due = 0) (h3 : d.opn = false) (h4 : mayT d.start = true ∨ d.frame = none ∨ d.frame = some (T "0")) : RdOk b (beginBody (Par b) s).1 := by
  unfold beginBody
  rw [hd]
  dsimp only
  have hCh : (Par b).chunksV = chunksT := rfl
  rw [hCh]
  split
  · rename_i hc
    have hm : mayT d.start = true := by
      rcases h4 with h | h | h
      · exact h
      · rw [h] at hc; cases hc
      · rw [h] at hc
        have : T "0" = chunksT := by injection hc
        exact absurd this (by decide +kernel)
    exact rdok_some (d := d) hl rfl hB (.inr (.inr (.inr ⟨.inl rfl, hm, h3, by rw [h1]; decide⟩)))
  · rename_i hc
    have hBf : DrBase b (d.framed (Par b)) := by
      unfold Dr.framed
      split <;> exact ⟨hB.st, hB.sl, hB.many, hB.fs, hB.body, hB.fr⟩
    split
    · rename_i hy
      have key : mayT d.start = true ∧ ((d.framed (Par b)).opn = false → 0 < (d.framed (Par b)).due ∧ (d.framed (Par b)).due ≤ 100000) := by
        unfold Dr.framed at hy ⊢
        cases hfm : d.frame with
        | none =>
          rw [hfm] at hy
          have hy : (b && mayT d.start) = true ∨ d.due > 0 := hy
          rw [h2] at hy
          rcases hy with hy | hy
          · rw [Bool.and_eq_true] at hy
            refine ⟨hy.2, fun z => ?_⟩
            have z : (b && mayT d.start) = false := z
            rw [hy.1, hy.2] at z
            cases z
          · omega
        | some v =>
          rw [hfm] at hy
          have hy : d.opn = true ∨ (((numT v).getD 0 : Nat) : Int) > 0 := hy
          have hv : (((numT v).getD 0 : Nat) : Int) > 0 := by
            rcases hy with hy | hy
            · rw [h3] at hy; cases hy
            · exact hy
          have hfr := hB.fr v hfm
          have hk : ∃ k, numT v = some k ∧ k ≤ 100000 := by
            rcases hfr with e | e
            · exact absurd (by rw [hfm, e]) hc
            · exact e
          obtain ⟨k, hk, hk2⟩ := hk
          rw [hk] at hv
          refine ⟨?_, fun _ => ?_⟩
          · rcases h4 with h | h | h
            · exact h
            · rw [h] at hfm; cases hfm
            · rw [h] at hfm
              injection hfm with hfm
              have := (numT_zero hk).mpr hfm.symm
              rw [this] at hv
              exact absurd hv (by decide)
          · show 0 < (((numT v).getD 0 : Nat) : Int) ∧ (((numT v).getD 0 : Nat) : Int) ≤ 100000
            rw [hk]
            show 0 < ((k : Nat) : Int) ∧ ((k : Nat) : Int) ≤ 100000
            have hv : ((k : Nat) : Int) > 0 := hv
            omega
      have hsg : (d.framed (Par b)).signs = [] := by unfold Dr.framed; split <;> exact h1
      have hst : (d.framed (Par b)).start = d.start := by unfold Dr.framed; split <;> rfl
      refine rdok_some (d := d.framed (Par b)) hl rfl hBf (.inr (.inl ⟨rfl, by rw [hst]; exact key.1, by rw [hsg]; decide, fun z => ⟨(key.2 z).1, ?_⟩⟩))
      rw [hsg]
      have := (key.2 z).2
      show (0 : Int) + _ ≤ _
      omega
    · exact rdok_complete hl rfl
theorem rdok_line {b : Bool} {s : RS} (h : RdOk b s) (hf : s.fault = none) (n1 : s.stage ≠ .body) (n2 : s.stage ≠ .chunk) (n3 : s.stage ≠ .ends) : RdOk b (readLine (Par b) s).1 := by
  have hll := h.line
  have h0 : (([] : Tx)).length ≤ 300 := by decide
  unfold readLine
  dsimp only
  rcases h.st hf with ⟨hd, hs⟩ | ⟨d, hd, hB, hS⟩
  · rw [if_neg (by rw [hs]; simp), if_pos hs]
    dsimp only
    split
    · exact rdok_none h0 hd hs
    · unfold readStartLine
      split
      · rename_i hst
        exact rdok_some (d := ⟨s.line, [], none, false, [], 0⟩) h0 rfl ⟨hst, hll, Nat.zero_le _, fun f hf => (nomatch hf), fun c hc => (nomatch hc), fun v hv => (nomatch hv)⟩ (.inl ⟨rfl, rfl, rfl, rfl, .inr (.inl rfl)⟩)
      · exact rdok_off h0
  · have hns : s.stage ≠ .start := fun z => by
      unfold DrSt at hS
      rw [z] at hS
      rcases hS with ⟨h, _⟩ | ⟨h, _⟩ | ⟨h, _⟩ | ⟨h | h | h, _⟩ <;> cases h
    by_cases c1 : s.stage = .size
    · rw [if_pos c1]
      have hq : mayT d.start = true ∧ d.opn = false ∧ d.signs.length ≤ 100000 := by
        unfold DrSt at hS
        rw [c1] at hS
        rcases hS with ⟨h, _⟩ | ⟨h, _⟩ | ⟨h, _⟩ | ⟨_, h⟩
        · cases h
        · cases h
        · cases h
        · exact h
      unfold readSizeLine
      dsimp only
      rw [hd]
      dsimp only
      split
      · exact rdok_off h0
      · rename_i n hn
        split
        · exact rdok_off h0
        · split
          · exact rdok_some (d := d) h0 rfl hB (.inr (.inr (.inr ⟨.inr (.inr rfl), hq⟩)))
          · refine rdok_some (d := { d with due := (n : Int) }) h0 rfl ⟨hB.st, hB.sl, hB.many, hB.fs, hB.body, hB.fr⟩ (.inr (.inr (.inl ⟨rfl, hq.1, hq.2.1, ?_, ?_⟩)))
            · show (0 : Int) < (n : Int)
              omega
            · show (d.signs.length : Int) + (n : Int) ≤ 100000
              omega
    · rw [if_neg c1, if_neg hns]
      split
      · rename_i ht
        by_cases c4 : s.stage = .trailer
        · rw [if_pos c4]
          exact rdok_complete h0 hd
        · rw [if_neg c4]
          have hq : d.signs = [] ∧ d.due = 0 ∧ d.opn = false ∧ (mayT d.start = true ∨ d.frame = none ∨ d.frame = some (T "0")) := by
            unfold DrSt at hS
            rcases hS with ⟨_, h⟩ | ⟨h, _⟩ | ⟨h, _⟩ | ⟨h | h | h, _⟩
            · exact h
            · exact absurd h n1
            · exact absurd h n2
            · exact absurd h c1
            · exact absurd h n3
            · exact absurd h c4
          exact rdok_begin h0 hd hB hq.1 hq.2.1 hq.2.2.1 hq.2.2.2
      · dsimp only
        unfold readFieldLine
        dsimp only
        rw [hd]
        dsimp only
        have hL : (Par b).lineRes ((Par b).may d.start) (decide (s.stage = .trailer)) d.frame d.fields.length s.line = lineResT (mayT d.start) (decide (s.stage = .trailer)) d.frame d.fields.length s.line := rfl
        rw [hL]
        split
        · exact rdok_off h0
        · rename_i v hv
          obtain ⟨f1, f2, f3⟩ := (Par b).frameOk _ _ _ _ _ _ (show (Par b).lineRes (mayT d.start) (decide (s.stage = .trailer)) d.frame d.fields.length s.line = .frame v from hv)
          have fm := frame_may hv
          refine rdok_some (d := { d with frame := some v }) h0 rfl ⟨hB.st, hB.sl, hB.many, hB.fs, hB.body, fun x hx => ?_⟩ ?_
          · injection hx with hx
            rw [← hx]
            exact f3
          · unfold DrSt at hS ⊢
            rcases hS with ⟨a1, a2, a3, a4, a5⟩ | a | a | a
            · exact .inl ⟨a1, a2, a3, a4, fm.imp id fun z => .inr (by rw [z])⟩
            · exact .inr (.inl a)
            · exact .inr (.inr (.inl a))
            · exact .inr (.inr (.inr a))
        · rename_i n v hv
          obtain ⟨k, _, hcase⟩ := lineRes_good (fun k z => by rw [z] at hv; cases hv)
          rcases hcase with ⟨_, e⟩ | ⟨_, e, e2, e3, e4⟩
          · rw [e] at hv; cases hv
          · rw [e] at hv
            injection hv with hn hv
            refine rdok_some (d := { d with fields := d.fields ++ [(n, v)] }) h0 rfl ⟨hB.st, hB.sl, by show (d.fields ++ [(n, v)]).length ≤ 40; rw [List.length_append, List.length_singleton]; omega, fun f hf => ?_, hB.body, hB.fr⟩ hS
            rcases List.mem_append.mp hf with hf | hf
            · exact hB.fs f hf
            · rw [List.mem_singleton.mp hf, ← hn, ← hv]
              exact ⟨e3, e4⟩
theorem rdok_sign {b : Bool} {s : RS} (h : RdOk b s) (hf : s.fault = none) (c : Nat) : RdOk b (readSign (Par b) s c).1 := by
  have key : RdOk b (readSign0 (Par b) s c).1 := by
    unfold readSign0
    have hPp : (Par b).plain c = isPlain c := rfl
    rw [hPp]
    split
    · exact rdok_off h.line
    · rename_i c0
      have hc : c = 10 ∨ isPlain c = true := by
        by_cases c1 : c = 10
        · exact .inl c1
        · right
          cases hp : isPlain c with
          | true => rfl
          | false => exact absurd ⟨c1, hp⟩ c0
      split
      · rename_i hs
        exact rdok_body h hf hs hc
      · rename_i hs
        split
        · rename_i h3
          unfold readChunkEnd
          split
          · rcases h.st hf with ⟨_, hs⟩ | ⟨d, hd, hB, hS⟩
            · rw [hs] at h3; cases h3
            · unfold DrSt at hS
              rw [h3] at hS
              rcases hS with ⟨h, _⟩ | ⟨h, _⟩ | ⟨h, _⟩ | ⟨_, h'⟩
              · cases h
              · cases h
              · cases h
              · exact rdok_some (d := d) h.line hd hB (.inr (.inr (.inr ⟨.inl rfl, h'⟩)))
          · exact rdok_off h.line
        · rename_i h3
          split
          · exact rdok_line h hf (fun z => hs (.inl z)) (fun z => hs (.inr z)) h3
          · split
            · exact rdok_off h.line
            · rename_i h5
              refine ⟨?_, h.st⟩
              show (s.line ++ [c]).length ≤ 300
              rw [List.length_append, List.length_singleton]
              have := h.line
              omega
  exact ⟨key.line, key.st⟩
end K6

set_option Elab.async false
set_option linter.all false
set_option maxRecDepth 100000
set_option maxHeartbeats 4000000
/-! KO13: a reader made, fed, finished. -/
namespace K6
open PySem PySem.Spec PyProof.Rows L2
def MsgsAt (D : Ad) (b : Bool) (N : Addr → Prop) (H : Hp) (xs : List V) (rows : List Row) : Prop := Paired (fun x row => MsgAt D b N H x (startArgs b row.start) row.fields row.body) xs rows
section
variable {D : Ad} {b : Bool}
variable {P : Program} {w : World} {K : PySem.W.Frag} {mg : PySem.Str → Option Value} {base : Heap}
theorem RdAt.notup {e : Bool} {H : Hp} {r : Addr} {F : List Addr} {s : RS} (h : RdAt D b e H r F s) : ∀ a ∈ F, ∀ ys, H a ≠ some (.tup ys) := by
  obtain ⟨dx, fx, dv, h1, h2, h3⟩ := h
  intro a ha ys z
  rcases h3 with ⟨_, _, rfl⟩ | ⟨d, q, la, ls, _, _, rfl, dxq, bx, dxb, Lb, xs, g1, g2, g3, g4, g5, g6⟩
  · rw [List.mem_singleton] at ha
    rw [ha, h1] at z
    cases z
  · simp only [List.mem_cons, List.not_mem_nil, or_false] at ha
    rcases ha with rfl | rfl | rfl | rfl
    · rw [h1] at z; cases z
    · rw [g1] at z; cases z
    · rw [g3] at z; cases z
    · rw [g5] at z; cases z
/-- what stands outside the footprint stands behind a step -/
theorem MsgAt.step {N N' : Addr → Prop} {H H' : Hp} {F F' : List Addr} {x : V} {args : List Tx} {fs : List Fld} {bd : Tx} (h : MsgAt D b N H x args fs bd) (f : Fr' F H H' F') (nt : ∀ a ∈ F, ∀ ys, H a ≠ some (.tup ys)) (hN : ∀ a, N a → a ∉ F) (hN' : ∀ a, N a → a ∉ F' → N' a) : MsgAt D b N' H' x args fs bd := by
  obtain ⟨p, dx, L, xs, rfl, n1, n2, h1, h2, h3⟩ := h
  have out : ∀ a o, H a = some o → N a → a ∉ F' := fun a o e n hm => by
    rcases f.new a hm with h | h
    · exact hN a n h
    · rw [e] at h; cases h
  exact ⟨p, dx, L, xs, rfl, hN' p n1 (out _ _ h1 n1), hN' L n2 (out _ _ h2 n2), f.keep _ _ h1 (hN p n1), f.keep _ _ h2 (hN L n2), h3.mono fun a ys e => f.keep _ _ e fun ha => nt a ha ys e⟩
theorem MsgAt.put {N : Addr → Prop} {H : Hp} {x : V} {args : List Tx} {fs : List Fld} {bd : Tx} {l : Addr} {ys zs : List V} (h : MsgAt D b N H x args fs bd) (hl : H l = some (.lst ys)) (hn : ¬ N l) : MsgAt D b N (upd H l (.lst zs)) x args fs bd :=
  h.keep (fun a o e n => by
    rw [upd_ne fun z => hn (by rw [← z]; exact n)]
    exact e) (put_tup hl)
theorem MsgsAt.snoc {N : Addr → Prop} {H : Hp} {x : V} {f : Row} (hf : MsgAt D b N H x (startArgs b f.start) f.fields f.body) : ∀ {xs : List V} {fs : List Row}, MsgsAt D b N H xs fs → MsgsAt D b N H (xs ++ [x]) (fs ++ [f])
  | _, _, .nil => .cons hf .nil
  | _, _, .cons h r => .cons h (MsgsAt.snoc hf r)
theorem RdAt.put_l {e : Bool} {H : Hp} {r l : Addr} {F : List Addr} {s : RS} {o : HO} {xs : List V} (h : RdAt D b e H r F s) (hl : H l = some (.lst xs)) (hn : l ∉ F) : RdAt D b e (upd H l o) r F s := by
  obtain ⟨dx, fx, dv, h1, h2, h3⟩ := h
  have hF : r ∈ F := h3.mem
  refine ⟨dx, fx, dv, by rw [upd_ne (show r ≠ l from fun z => hn (by rw [← z]; exact hF))]; exact h1, h2.mono (put_tup hl), ?_⟩
  rcases h3 with h3 | ⟨d, q, la, ls, e1, e2, rfl, dxq, bx, dxb, Lb, xs', g1, g2, g3, g4, g5, g6⟩
  · exact .inl h3
  · simp only [List.mem_cons, List.not_mem_nil, or_false, not_or] at hn
    refine .inr ⟨d, q, la, ls, e1, e2, rfl, dxq, bx, dxb, Lb, xs', by rw [upd_ne fun z => hn.2.1 z.symm]; exact g1, by rw [upd_ne fun z => by rw [z, hl] at g2; cases g2]; exact g2, by rw [upd_ne fun z => hn.2.2.1 z.symm]; exact g3, g4.mono (put_tup hl), by rw [upd_ne fun z => hn.2.2.2 z.symm]; exact g5, g6⟩
def sp_rdinit (D : Ad) : Sp := fun vs H Q _ => ∃ (b : Bool) (p dx : Addr), vs = [.ref p, sideV b] ∧ H p = some (.ins D.rdr dx []) ∧ ∀ H', Kp1 p H H' → RdAt D b false H' p [p] RS.init → Q .non H'
theorem ok_rdinit (T : Txt K mg) (O : Obs P K mg D) : ∃ f fd, Mk K D.rdr f ∧ Fun K "__init__" "Reader.__init__" s_Reader___init__ f fd ∧ Binds K fd ["self", "side"] [] ∧ FnOk P w K mg base CX0 1 f fd ["self", "side"] (sp_rdinit D) := by
  obtain ⟨f, fd, M, F⟩ := O.rdI
  refine ⟨f, fd, M, F, F.binds fun _ _ _ _ _ _ us hl => match us, hl with | [_, _], _ => rfl, F.ok sc_Reader___init__ (fun vs H Q E h => ?_) (fun cdv A outer s H vs Q E hr h => ?_)⟩
  · obtain ⟨b, p, dx, rfl, _⟩ := h
    rfl
  · obtain ⟨b, p, dx, rfl, hp, q⟩ := h
    obtain ⟨aSi, hSi, sSi⟩ := T.SIDES
    refine ⟨_, pss_cons (ps_if (pt_cmpR op_notIn_seq (pv 1) (pe_gv hSi rfl) (by rfl)) (pss_one ps_never) pss_nil) (pss_cons (ps_fld (pv 0) (pv 1) rfl) (pss_cons (ps_fld (pv 0) pe_str rfl) (pss_cons (ps_fld (pv 0) pe_non rfl) (pss_cons (ps_fld (pv 0) pe_int rfl) (pss_cons (ps_fld (pv 0) pe_int rfl) (pss_cons (ps_fld (pv 0) pe_str rfl) (pss_cons (ps_fld (pv 0) pe_non rfl) (pss_one (ps_fld (pv 0) pe_bl rfl))))))))), ?_⟩
    have hin : inV (sideV b) [str "asks", str "answers"] = true := by cases b <;> decide +kernel
    have hfl : flatV (sideV b) = true := by cases b <;> rfl
    refine ⟨_, rfl, aSi, _, rfl, .inr (sSi _), hfl, rfl, _, rfl, ?_⟩
    rw [hin]
    have N := fun {f : PySem.Str} h => rdA (f := f) O h
    refine iteF ⟨_, rfl, _, rfl, p, D.rdr, dx, _, rfl, hp, O.rdC, N (by simp), by decide, ?_⟩
    refine ⟨_, rfl, p, D.rdr, dx, _, rfl, upd_same, O.rdC, N (by simp), by show 1 < 1000; decide, ?_⟩
    refine ⟨_, rfl, p, D.rdr, dx, _, rfl, upd_same, O.rdC, N (by simp), by show 2 < 1000; decide, ?_⟩
    refine ⟨_, rfl, p, D.rdr, dx, _, rfl, upd_same, O.rdC, N (by simp), by show 3 < 1000; decide, ?_⟩
    refine ⟨_, rfl, p, D.rdr, dx, _, rfl, upd_same, O.rdC, N (by simp), by show 4 < 1000; decide, ?_⟩
    refine ⟨_, rfl, p, D.rdr, dx, _, rfl, upd_same, O.rdC, N (by simp), by show 5 < 1000; decide, ?_⟩
    refine ⟨_, rfl, p, D.rdr, dx, _, rfl, upd_same, O.rdC, N (by simp), by show 6 < 1000; decide, ?_⟩
    refine ⟨_, rfl, p, D.rdr, dx, _, rfl, upd_same, O.rdC, N (by simp), by show 7 < 1000; decide, ?_⟩
    rw [upd_upd, upd_upd, upd_upd, upd_upd, upd_upd, upd_upd, upd_upd]
    exact q _ Kp1.refl.put ⟨dx, .non, .non, upd_same, rfl, .inl ⟨rfl, rfl, rfl⟩⟩
theorem flt_dec {H : Hp} {x : V} {f : Flt} (h : FltAt H x f) : decide (x = .non) = decide (f = none) := flt_non h
def sp_feed (D : Ad) (b : Bool) : Sp := fun vs H Q _ => ∃ (r : Addr) (t : Tx) (F : List Addr) (s : RS), vs = [.ref r, .str (S t)] ∧ t.length ≤ 4000000 ∧ RdAt D b false H r F s ∧ RdOk b s ∧
  ∀ H' F' l xs, Fr' F H H' F' → RdAt D b false H' r F' (run (Par b) s t).2 → RdOk b (run (Par b) s t).2 → H l = none → l ∉ F' → H' l = some (.lst xs) → MsgsAt D b (fun a => H a = none ∧ a ∉ F' ∧ a ≠ l) H' xs (run (Par b) s t).1 → Q (.ref l) H'
theorem ok_Reader_feed (T : Txt K mg) (O : Obs P K mg D) : OkM P w K mg base CX0 D.rdr "feed" 14 ["self", "piece"] (sp_feed D b) := by
  obtain ⟨f, fd, hm, F⟩ := O.Reader_feed
  refine ⟨f, fd, hm, F.binds fun _ _ _ _ _ _ us hl => match us, hl with | [_, _], _ => rfl, F.ok sc_Reader_feed (fun vs H Q E h => ?_) (fun cdv A outer s H vs Q E hr h => ?_)⟩
  · obtain ⟨r, t, F, s, rfl, _⟩ := h
    rfl
  · obtain ⟨r, t, F, s, rfl, ht, hrd, hok, q⟩ := h
    obtain ⟨dx, fx, dv, h1, h2, h3⟩ := id hrd
    refine ⟨_, pss_cons (ps_if (pt_val (pe_fld (pv 0) rfl)) (pss_one ps_never) pss_nil) (pss_cons (ps_set (i := 2) sc_Reader_feed.nd rfl (Or.inl rfl) (pe_lst pa_nil)) (pss_cons (ps_for PassesOwn.never rfl (pi_str (pv 1)) (pg_name (i := 3) sc_Reader_feed.nd rfl (Or.inl rfl)) (pss_cons (ps_if (pt_cmpR op_notN (pe_fld (pv 0) rfl) pe_non (nomark _)) (pss_one ps_break) pss_nil) (pss_cons (ps_set (i := 4) sc_Reader_feed.nd rfl (Or.inl rfl) (pe_methO (ok_Reader_read_sign (b := b) T O) (pv 0) O.rdC hr (pa_cons (pv 3) pa_nil))) (pss_one (ps_if (pt_cmpR op_notN (pv 4) pe_non (nomark _)) (pss_one (ps_expr (pe_bm PySem.F.plainAttrs_list PySem.F.slot_list_append PySem.F.type_list_append mt_append (pv 2) (pa_cons (pv 4) pa_nil)))) pss_nil))))) (pss_one (ps_ret (pv 2))))), ?_⟩
    refine seq_mid (fun σ' H' => σ' = [some (.ref r), some (.str (S t)), none, none, none] ∧ H' = H) ?_ (fun nx hnx => ⟨_, rfl, r, D.rdr, dx, _, _, rfl, h1, O.rdC, rdA O (by simp), rdr_stream_ended, _, rfl, iteF (hnx _ _ ⟨rfl, rfl⟩)⟩)
    rintro σ1 H0 ⟨rfl, rfl⟩
    refine seq_mid (fun σ' H' => ∃ l, σ' = [some (.ref r), some (.str (S t)), some (.ref l), none, none] ∧ H0 l = none ∧ H' = upd H0 l (.lst [])) ?_ (fun nx hnx => ⟨by show 0 ≤ sizeLine; decide, fun l hl => hnx _ _ ⟨l, rfl, hl, rfl⟩⟩)
    rintro σ1 H1 ⟨l, rfl, hl, rfl⟩
    have s1 := same_new (o := .lst []) hl
    refine seq_mid (fun σ' H' => ∃ F' xs v3 v4, σ' = [some (.ref r), some (.str (S t)), some (.ref l), v3, v4] ∧ Fr' F H0 H' F' ∧ RdAt D b false H' r F' (run (Par b) s t).2 ∧ RdOk b (run (Par b) s t).2 ∧ l ∉ F' ∧ H' l = some (.lst xs) ∧ MsgsAt D b (fun a => H0 a = none ∧ a ∉ F' ∧ a ≠ l) H' xs (run (Par b) s t).1) ?_ ?_
    · rintro σ1 H2 ⟨F', xs, v3, v4, rfl, f2, rd2, ok2, hlF, hl2, hm⟩
      exact ⟨_, rfl, q H2 F' l xs f2 rd2 ok2 hl hlF hl2 hm⟩
    · intro nx hnx
      have hlF : l ∉ F := fun z => by
        have : H0 l ≠ none := by
          rcases h3 with ⟨_, _, rfl⟩ | ⟨d, qa, la, ls, _, _, rfl, dxq, bx, dxb, Lb, xs', g1, g2, g3, g4, g5, g6⟩
          · rw [List.mem_singleton] at z; rw [z, h1]; simp
          · simp only [List.mem_cons, List.not_mem_nil, or_false] at z
            rcases z with rfl | rfl | rfl | rfl
            · rw [h1]; simp
            · rw [g1]; simp
            · rw [g3]; simp
            · rw [g5]; simp
        exact this hl
      refine ⟨_, rfl, _, rfl, for_itB (n := (S t).cps.size) (G := fun _ => True) walk_str (fun i σ H' => ∃ rows s1 F' xs v3 v4, σ = [some (.ref r), some (.str (S t)), some (.ref l), v3, v4] ∧ run (Par b) s (t.take i) = (rows, s1) ∧ Fr' F H0 H' F' ∧ RdAt D b false H' r F' s1 ∧ RdOk b s1 ∧ l ∉ F' ∧ H' l = some (.lst xs) ∧
          MsgsAt D b (fun a => H0 a = none ∧ a ∉ F' ∧ a ≠ l) H' xs rows ∧ rows.length ≤ i)
        (fun σ H' => ∃ F' xs v3 v4, σ = [some (.ref r), some (.str (S t)), some (.ref l), v3, v4] ∧ Fr' F H0 H' F' ∧ RdAt D b false H' r F' (run (Par b) s t).2 ∧ RdOk b (run (Par b) s t).2 ∧ l ∉ F' ∧ H' l = some (.lst xs) ∧ MsgsAt D b (fun a => H0 a = none ∧ a ∉ F' ∧ a ≠ l) H' xs (run (Par b) s t).1)
        ⟨[], s, F, [], _, _, rfl, rfl, Fr'.refl.same s1, hrd.same s1, hok, hlF, upd_same, .nil, Nat.le_refl _⟩ (fun _ _ _ _ _ => trivial) (fun σ H' h => hnx σ H' h) ?_ ?_⟩
      · rintro hB i x σ H2 H3 hi ⟨rows, s2, F', xs, v3, v4, rfl, hrun, f2, rd2, ok2, hlF2, hl2, hm, hlen⟩ ⟨rfl, c, hc, rfl⟩
        have hi' : i < t.length := by simpa [S] using hi
        have hc' : t[i]? = some c := by rw [← hc]; simp [S]
        obtain ⟨dx2, fx2, dv2, k1, k2, k3⟩ := id rd2
        refine ⟨_, rfl, r, D.rdr, dx2, _, _, rfl, k1, O.rdC, rdA O (by simp), rdr_fault_found, rfl, _, rfl, ?_⟩
        rw [flt_non k2]
        by_cases hfa : s2.fault = none
        case neg =>
          rw [decide_eq_false hfa]
          have hall : run (Par b) s t = (rows, s2) := by
            have := run_append (P := Par b) (t.take i) (t.drop i) s
            rw [List.take_append_drop, hrun, run_fault (P := Par b) hfa] at this
            rw [this, List.append_nil]
          refine iteT (hB _ _ ⟨F', xs, _, _, rfl, f2, ?_, ?_, hlF2, hl2, ?_⟩)
          · rw [hall]; exact rd2
          · rw [hall]; exact ok2
          · rw [hall]; exact hm
        rw [decide_eq_true hfa]
        have htk : t.take (i + 1) = t.take i ++ [c] := by rw [List.take_succ, hc']; rfl
        have hrun1 : run (Par b) s (t.take (i + 1)) = (rows ++ (readSign (Par b) s2 c).2.toList, (readSign (Par b) s2 c).1) := by
          rw [htk, run_append, hrun]
          dsimp only
          rw [run_cons (P := Par b) hfa, run_nil]
          dsimp only
          rw [List.append_nil]
        have ok3 := rdok_sign ok2 hfa c
        have nt := rd2.notup
        have outl : ∀ {H4 F4}, Fr' F' H3 H4 F4 → l ∉ F4 := fun f hm => by
          rcases f.new l hm with h | h
          · exact hlF2 h
          · rw [hl2] at h; cases h
        refine iteF ⟨_, rfl, r, dx2, _, rfl, k1, rdr_no (by decide +kernel), _, rfl, r, c, false, F', s2, rfl, rd2, ok2, hfa, stepq_mk (fun hno H4 F4 f4 rd4 => ?_) (fun row hrow H4 F4 x f4 rd4 hx => ?_)⟩
        · rw [hno] at hrun1
          refine ⟨_, rfl, rfl, _, rfl, iteF ?_⟩
          refine ⟨rows, _, F4, xs, _, _, rfl, by rw [hrun1]; simp, f2.trans f4, rd4, ok3, outl f4, f4.keep _ _ hl2 hlF2, Paired.mapP hm fun x row h => h.step f4 nt (fun a n => n.2.1) (fun a n h => ⟨n.1, h, n.2.2⟩), by omega⟩
        · rw [hrow] at hrun1
          have hx0 : decide (x = V.non) = false := by
            obtain ⟨p, _, _, _, rfl, _⟩ := hx
            exact decide_eq_false (by intro z; cases z)
          have hl4 := f4.keep _ _ hl2 hlF2
          have hml := Paired.length hm
          refine ⟨_, rfl, rfl, _, rfl, ?_⟩
          rw [hx0]
          refine iteT ⟨_, rfl, .inl ⟨rfl, _, SqL.of hl4⟩, _, rfl, l, xs, x, rfl, rfl, hl4, by rw [hml]; show _ < 16777216; omega, ?_⟩
          have f5 : Fr' F H0 (upd H4 l (.lst (xs ++ [x]))) F4 := (f2.trans f4).put (.inr hl)
          have hm4 : MsgsAt D b (fun a => H0 a = none ∧ a ∉ F4 ∧ a ≠ l) H4 xs rows := Paired.mapP hm fun x row h => h.step f4 nt (fun a n => n.2.1) (fun a n h => ⟨n.1, h, n.2.2⟩)
          have hx4 : MsgAt D b (fun a => H0 a = none ∧ a ∉ F4 ∧ a ≠ l) H4 x (startArgs b row.start) row.fields row.body := hx.weak fun a n => ⟨by
            cases hz : H0 a with
            | none => rfl
            | some z => exact absurd n.1 (f2.has a (by rw [hz]; simp)), n.2, fun z => by rw [z, hl2] at n; cases n.1⟩
          have nl : ¬ (H0 l = none ∧ l ∉ F4 ∧ l ≠ l) := fun z => z.2.2 rfl
          refine ⟨rows ++ [row], _, F4, xs ++ [x], _, _, rfl, by rw [hrun1]; rfl, f5, rd4.put_l hl4 (outl f4), ok3, outl f4, upd_same, MsgsAt.snoc (hx4.put hl4 nl) (Paired.mapP hm4 fun x row h => h.put hl4 nl), by rw [List.length_append, List.length_singleton]; omega⟩
      · rintro σ H2 ⟨rows, s2, F', xs, v3, v4, rfl, hrun, f2, rd2, ok2, hlF2, hl2, hm, hlen⟩
        rw [show (S t).cps.size = t.length from by simp [S], List.take_length] at hrun
        refine ⟨F', xs, _, _, rfl, f2, ?_, ?_, hlF2, hl2, ?_⟩
        · rw [hrun]; exact rd2
        · rw [hrun]; exact ok2
        · rw [hrun]; exact hm
theorem RdAt.hasF {e : Bool} {H : Hp} {r : Addr} {F : List Addr} {s : RS} (h : RdAt D b e H r F s) : ∀ a ∈ F, H a ≠ none := by
  obtain ⟨dx, fx, dv, h1, h2, h3⟩ := h
  intro a ha z
  rcases h3 with ⟨_, _, rfl⟩ | ⟨d, q, la, ls, _, _, rfl, dxq, bx, dxb, Lb, xs, g1, g2, g3, g4, g5, g6⟩
  · rw [List.mem_singleton] at ha
    rw [ha, h1] at z
    cases z
  · simp only [List.mem_cons, List.not_mem_nil, or_false] at ha
    rcases ha with rfl | rfl | rfl | rfl
    · rw [h1] at z; cases z
    · rw [g1] at z; cases z
    · rw [g3] at z; cases z
    · rw [g5] at z; cases z
def sp_fin (D : Ad) (b : Bool) : Sp := fun vs H Q _ => ∃ (r : Addr) (F : List Addr) (s : RS), vs = [.ref r] ∧ RdAt D b false H r F s ∧ RdOk b s ∧
  ∀ H' F' l xs, Fr' F H H' F' → RdAt D b true H' r F' (finish s).2 → H l = none → l ∉ F' → H' l = some (.lst xs) → MsgsAt D b (fun a => H a = none ∧ a ∉ F' ∧ a ≠ l) H' xs (finish s).1 → Q (.ref l) H'
theorem ok_Reader_finish (T : Txt K mg) (O : Obs P K mg D) : OkM P w K mg base CX0 D.rdr "finish" 11 ["self"] (sp_fin D b) := by
  obtain ⟨f, fd, hm, F⟩ := O.Reader_finish
  refine ⟨f, fd, hm, F.binds fun _ _ _ _ _ _ us hl => match us, hl with | [_], _ => rfl, F.ok sc_Reader_finish (fun vs H Q E h => ?_) (fun cdv A outer s H vs Q E hr h => ?_)⟩
  · obtain ⟨r, F, s, rfl, _⟩ := h
    rfl
  · obtain ⟨r, F, s, rfl, hrd, hok, q⟩ := h
    obtain ⟨dx, fx, dv, h1, h2, h3⟩ := id hrd
    refine ⟨_, pss_cons (ps_if (pt_val (pe_fld (pv 0) rfl)) (pss_one ps_never) pss_nil) (pss_cons (ps_fld (pv 0) pe_bl rfl) (pss_cons (ps_if (pt_cmpR op_notN (pe_fld (pv 0) rfl) pe_non (nomark _)) (pss_one (ps_ret (pe_lst pa_nil))) pss_nil) (pss_cons (ps_if (PW.pt (pw_and (pt_cmpR op_eq (pe_fld (pv 0) rfl) pe_str (nomark _)) (pw_and1 (pt_cmpR op_eq (pe_fld (pv 0) rfl) pe_str (nomark _))))) (pss_cons (ps_fld (pv 0) pe_str rfl) (pss_one (ps_ret (pe_lst pa_nil)))) pss_nil) (pss_cons (ps_if (PW.pt (pw_and (pt_cmpR op_eq (pe_fld (pv 0) rfl) pe_str (nomark _)) (pw_and1 (pt_val (pe_fld (pe_fld (pv 0) rfl) rfl))))) (pss_cons (ps_set (i := 1) sc_Reader_finish.nd rfl (Or.inl rfl) (pe_methO0 (ok_Reader_complete_message (b := b) T O) (pv 0) O.rdC hr)) (pss_cons (ps_fld (pv 0) pe_str rfl) (pss_one (ps_ret (pe_lst (pa_cons (pv 1) pa_nil)))))) pss_nil) (pss_cons (ps_expr (pe_methO (ok_Reader_break_off (b := b) T O) (pv 0) O.rdC hr (pa_cons pe_str (pa_cons (pe_fld (pv 0) rfl) pa_nil)))) (pss_one (ps_ret (pe_lst pa_nil)))))))), ?_⟩
    refine seq_mid (fun σ' H' => σ' = [some (.ref r), none] ∧ H' = H) ?_ (fun nx hnx => ⟨_, rfl, r, D.rdr, dx, _, _, rfl, h1, O.rdC, rdA O (by simp), rdr_stream_ended, _, rfl, iteF (hnx _ _ ⟨rfl, rfl⟩)⟩)
    rintro σ1 H0 ⟨rfl, rfl⟩
    refine seq_mid (fun σ' H' => σ' = [some (.ref r), none] ∧ Fr' F H0 H' F ∧ RdAt D b true H' r F s) ?_ ?_
    rotate_left
    · intro nx hnx
      refine ⟨_, rfl, r, D.rdr, dx, _, rfl, h1, O.rdC, rdA O (by simp), by show 8 < 1000; decide, ?_⟩
      rw [rdr_put_stream_ended]
      exact hnx _ _ ⟨rfl, Fr'.refl.put (.inl h3.mem), RdAt.set (e' := true) (s' := s) (dx := dx) h1 h2 h3⟩
    rintro σ1 H1 ⟨rfl, f1, rd1⟩
    obtain ⟨dx1, fx1, dv1, k1, k2, k3⟩ := id rd1
    -- an empty list, made at the end
    have emp : ∀ {H2 F2}, Fr' F H0 H2 F2 → RdAt D b true H2 r F2 (finish s).2 → (finish s).1 = [] → ∀ l, H2 l = none → Q (.ref l) (upd H2 l (.lst [])) := fun {H2 F2} f2 rd2 hno l hl => by
      refine q _ F2 l [] (f2.same (same_new hl)) (rd2.same (same_new hl)) ?_ (fun hm => rd2.hasF l hm hl) upd_same (by rw [hno]; exact .nil)
      cases hz : H0 l with
      | none => rfl
      | some z => exact absurd hl (f2.has l (by rw [hz]; simp))
    unfold finish at emp q
    refine ⟨_, rfl, r, D.rdr, dx1, _, _, rfl, k1, O.rdC, rdA O (by simp), rdr_fault_found, rfl, _, rfl, ?_⟩
    rw [flt_non k2]
    by_cases hfa : s.fault = none
    case neg =>
      rw [if_pos hfa] at emp
      rw [decide_eq_false hfa]
      exact iteT ⟨by show 0 ≤ sizeLine; decide, fun l hl => emp f1 rd1 rfl l hl⟩
    rw [if_neg (fun z => z hfa)] at emp q
    rw [decide_eq_true hfa]
    refine iteF ⟨_, rfl, r, D.rdr, dx1, _, _, rfl, k1, O.rdC, rdA O (by simp), rdr_stage_name, stg_scal _ _, _, rfl, ?_⟩
    rw [stg_dec s.stage "start" .start rfl]
    have cutoff : ¬ (s.stage = .start ∧ s.line = []) → (∀ d, s.draft = some d → ¬ (s.stage = .body ∧ d.opn = true)) → ∀ {H2 F2}, Fr' F H0 H2 F2 → RdAt D b true H2 r F2 (s.off .cut s.read) → ∀ l, H2 l = none → Q (.ref l) (upd H2 l (.lst [])) := fun n1 n2 {H2 F2} f2 rd2 l hl => by
      rw [if_neg n1] at emp
      cases hd : s.draft with
      | none =>
        rw [hd] at emp
        exact emp f2 rd2 rfl l hl
      | some d =>
        rw [hd] at emp
        dsimp only at emp
        rw [if_neg (n2 d hd)] at emp
        exact emp f2 rd2 rfl l hl
    have last : ¬ (s.stage = .start ∧ s.line = []) → (∀ d, s.draft = some d → ¬ (s.stage = .body ∧ d.opn = true)) → tSeq (tDrop (tMeth D.rdr "break_off" (sp_break_off D b) [] E0 (tVar 0) (tCons (tC (str "cut")) (tCons (tFld K (tVar 0) "signs_read") tNil)))) (tRet (tLst tNil)) { nx := fun _ H' => Q .non H', rt := Q } [some (.ref r), none] H1 := fun n1 n2 =>
      ⟨_, rfl, r, dx1, _, rfl, k1, rdr_no (by decide +kernel), _, rfl, r, D.rdr, dx1, _, _, rfl, k1, O.rdC, rdA O (by simp), rdr_signs_read, r, .cut, s.read, true, F, s, rfl, rd1, fun H2 fr rd => ⟨by show 0 ≤ sizeLine; decide, fun l hl => cutoff n1 n2 (f1.trans fr) rd l hl⟩⟩
    have bodyT : ¬ (s.stage = .start ∧ s.line = []) → tSeq (tIfS (tAnd (tTest (tOp rEq (tFld K (tVar 0) "stage_name") (tC (str "body")))) (tB (tFld K (tFld K (tVar 0) "draft") "open_ended")))
        (tSeq (tAsg (tMeth D.rdr "complete_message" (sp_complete D b) [] E0 (tVar 0) tNil) (gName 1)) (tSeq (sFld K (tVar 0) (tC (str "closed")) "stage_name") (tRet (tLst (tCons (tVar 1) tNil))))) tNext)
        (tSeq (tDrop (tMeth D.rdr "break_off" (sp_break_off D b) [] E0 (tVar 0) (tCons (tC (str "cut")) (tCons (tFld K (tVar 0) "signs_read") tNil)))) (tRet (tLst tNil))) { nx := fun _ H' => Q .non H', rt := Q } [some (.ref r), none] H1 := fun n1 => by
      refine ⟨_, rfl, r, D.rdr, dx1, _, _, rfl, k1, O.rdC, rdA O (by simp), rdr_stage_name, stg_scal _ _, _, rfl, ?_⟩
      rw [stg_dec s.stage "body" .body rfl]
      by_cases b1 : s.stage = .body
      case neg =>
        rw [decide_eq_false b1]
        exact iteF (last n1 fun d _ z => b1 z.1)
      rw [decide_eq_true b1]
      rcases hok.st hfa with ⟨_, hs⟩ | ⟨d, hd, hB, hS⟩
      · rw [hs] at b1; cases b1
      obtain ⟨dx2, fx2, qa, la, ls, m1, m2, rfl, m4⟩ := rd1.draft hd
      obtain ⟨dxq, bx, dxb, Lb, xs, g1, g2, g3, g4, g5, g6⟩ := id m4
      have N : ∀ f ∈ (["blank", "fields", "framing_value", "open_ended", "body_signs", "signs_due"] : List PySem.Str), NoAttr K D.dft f := O.dfN
      refine iteT ⟨_, rfl, r, D.rdr, dx2, _, _, rfl, m1, O.rdC, rdA O (by simp), rdr_draft, qa, D.dft, dxq, _, _, rfl, g1, O.dfC, N _ (by simp), dft_open_ended, _, rfl, ?_⟩
      cases ho : d.opn with
      | false => exact iteF (last n1 fun d' hd' z => by rw [hd] at hd'; cases hd'; rw [ho] at z; cases z.2)
      | true =>
        have hcm : (complete s).1 = { s with draft := none, done := s.done + 1, stage := .start } := by unfold complete; rw [hd]
        rw [if_neg n1, hcm, hd] at q
        dsimp only at q
        rw [if_pos ⟨b1, ho⟩] at q
        have hq : mayT d.start = true ∧ d.signs.length ≤ 100000 := by
          unfold DrSt at hS
          rw [b1] at hS
          rcases hS with ⟨h, _⟩ | ⟨_, h1, h2, _⟩ | ⟨h, _⟩ | ⟨h | h | h, _⟩
          · cases h
          · exact ⟨h1, h2⟩
          · cases h
          · cases h
          · cases h
          · cases h
        refine iteT ⟨_, rfl, r, dx2, _, rfl, m1, rdr_no (by decide +kernel), r, true, _, s, d, rfl, rd1, hd, hB.fin hq.2 (.inr hq.1), fun H2 x f2 rd2 hx => ?_⟩
        obtain ⟨dx3, fx3, dv3, p1, p2, p3⟩ := id rd2
        refine ⟨_, rfl, r, D.rdr, dx3, _, rfl, p1, O.rdC, rdA O (by simp), by show 8 < 1000; decide, ?_⟩
        rw [rdr_put_stage_name]
        refine ⟨_, rfl, by show 1 ≤ sizeLine; decide, fun l hl => ?_⟩
        have f3 := (f1.trans f2).put (a := r) (o := .ins D.rdr dx3 (rdrF (sideV b) (str "closed") fx3 ((s.done + 1 : Nat) : Int) s.read s.line dv3 true)) (.inl (by simp))
        have rd3 := RdAt.set (e' := true) (s' := { s with draft := none, done := s.done + 1, stage := .closed }) (dx := dx3) p1 p2 p3
        have hl0 : H0 l = none := by
          cases hz : H0 l with
          | none => rfl
          | some z => exact absurd hl (f3.has l (by rw [hz]; simp))
        have s4 := same_new (o := .lst [x]) hl
        have hxr : H0 r ≠ none := by rw [h1]; simp
        have hx4 : MsgAt D b (fun a => H0 a = none ∧ a ∉ [r] ∧ a ≠ l) (upd (upd H2 r (.ins D.rdr dx3 (rdrF (sideV b) (str "closed") fx3 ((s.done + 1 : Nat) : Int) s.read s.line dv3 true))) l (.lst [x])) x (startArgs b d.start) d.fields d.signs := by
          have e1 : MsgAt D b (fun a => H1 a = none) (upd H2 r (.ins D.rdr dx3 (rdrF (sideV b) (str "closed") fx3 ((s.done + 1 : Nat) : Int) s.read s.line dv3 true))) x (startArgs b d.start) d.fields d.signs := hx.keep (fun a o ea n => by
            rw [upd_ne fun z => by rw [z, k1] at n; cases n]
            exact ea) fun a ys ea => by
              rw [upd_ne fun z => by rw [z, p1] at ea; cases ea]
              exact ea
          obtain ⟨p, dxx, L, ys, rfl, n1', n2', t1, t2, t3⟩ := e1.same s4
          have old : ∀ a, H1 a = none → H0 a = none := fun a ha => by
            cases hz : H0 a with
            | none => rfl
            | some z => exact absurd ha (f1.has a (by rw [hz]; simp))
          have nr : ∀ a, H1 a = none → a ∉ [r] := fun a ha hm => by
            rw [List.mem_singleton] at hm
            rw [hm, k1] at ha
            cases ha
          refine ⟨p, dxx, L, ys, rfl, ⟨old _ n1', nr _ n1', fun z => ?_⟩, ⟨old _ n2', nr _ n2', fun z => ?_⟩, t1, t2, t3⟩
          · rw [z, upd_same] at t1; cases t1
          · obtain ⟨p2', dx2', L2', ys2, e2, _, _, u1, u2, _⟩ := e1
            cases e2
            have : L = L2' := by
              rw [s4 _ _ u1] at t1
              injection t1 with t1
              injection t1 with _ _ t1
              unfold msgF at t1
              have := List.append_cancel_left t1
              injection this with this _
              injection this with _ this
              injection this with this
              exact this.symm
            rw [← this, z, hl] at u2
            cases u2
        exact q _ [r] l [x] (f3.same s4) (rd3.same s4) hl0 (fun hm => by
          rw [List.mem_singleton] at hm
          rw [hm] at hl0
          exact hxr hl0) upd_same (.cons hx4 .nil)
    by_cases c2 : s.stage = .start
    case neg =>
      rw [decide_eq_false c2]
      exact iteF (bodyT fun z => c2 z.1)
    rw [decide_eq_true c2]
    refine iteT ⟨_, rfl, r, D.rdr, dx1, _, _, rfl, k1, O.rdC, rdA O (by simp), rdr_unfinished_line, rfl, _, rfl, ?_⟩
    rw [dec_emp]
    by_cases c3 : s.line = []
    case neg =>
      rw [decide_eq_false c3]
      exact iteF (bodyT fun z => c3 z.2)
    rw [decide_eq_true c3]
    rw [if_pos ⟨c2, c3⟩] at emp
    refine iteT ⟨_, rfl, r, D.rdr, dx1, _, rfl, k1, O.rdC, rdA O (by simp), by show 8 < 1000; decide, ?_⟩
    rw [rdr_put_stage_name]
    exact ⟨by show 0 ≤ sizeLine; decide, fun l hl => emp (f1.put (.inl h3.mem)) (RdAt.set (e' := true) (s' := { s with stage := .closed }) (dx := dx1) k1 k2 k3) rfl l hl⟩
end
end K6

set_option Elab.async false
set_option linter.all false
set_option maxRecDepth 100000
set_option maxHeartbeats 4000000
/-! KL1: what the rows of a run keep; deep comparisons of fields. -/
namespace K6
open PySem PySem.Spec PyProof.Rows L2
/-- a row that the reader tells -/
structure RowP (b : Bool) (r : Row) : Prop where
  st : startOkT b r.start = true
  sl : r.start.length ≤ 300
  many : r.fields.length ≤ 40
  fs : FsOk r.fields
theorem rowP_of {b : Bool} {d : Dr} (h : DrBase b d) : RowP b d.row := ⟨h.st, h.sl, h.many, h.fs⟩
def RowPo (b : Bool) (s : RS) : Option Row → Prop := fun o => ∀ r, o = some r → RowP b r
theorem rowP_complete {b : Bool} {s : RS} {r : Row} (h : ∀ d, s.draft = some d → RowP b d.row) (e : (complete s).2 = some r) : RowP b r := by
  unfold complete at e
  cases hd : s.draft with
  | none => rw [hd] at e; cases e
  | some d =>
    rw [hd] at e
    injection e with e
    rw [← e]
    exact h d hd
theorem rowP_sign {b : Bool} {s : RS} (h : RdOk b s) (hf : s.fault = none) (c : Nat) {r : Row} (e : (readSign (Par b) s c).2 = some r) : RowP b r := by
  have hd0 : ∀ d, s.draft = some d → DrBase b d := by
    intro d hd
    rcases h.st hf with ⟨hn, _⟩ | ⟨d', hd', hB, _⟩
    · rw [hn] at hd; cases hd
    · rw [hd'] at hd
      injection hd with hd
      rw [← hd]; exact hB
  have e : (readSign0 (Par b) s c).2 = some r := e
  unfold readSign0 at e
  split at e
  · cases e
  · split at e
    · unfold readBodySign at e
      cases hd : s.draft with
      | none => rw [hd] at e; cases e
      | some d =>
        have hB := hd0 d hd
        rw [hd] at e
        dsimp only at e
        split at e
        · split at e <;> cases e
        · split at e
          · cases e
          · split at e
            · refine rowP_complete (fun d' hd' => ?_) e
              injection hd' with hd'
              rw [← hd']
              exact ⟨hB.st, hB.sl, hB.many, hB.fs⟩
            · cases e
    · split at e
      · cases e
      · split at e
        · unfold readLine at e
          dsimp only at e
          split at e
          · cases e
          · split at e
            · cases e
            · split at e
              · split at e
                · exact rowP_complete (s := { s with line := [] }) (fun d' hd' => rowP_of (hd0 d' hd')) e
                · unfold beginBody at e
                  cases hd : s.draft with
                  | none => dsimp only at e; rw [hd] at e; cases e
                  | some d =>
                    have hB := hd0 d hd
                    dsimp only at e
                    rw [hd] at e
                    dsimp only at e
                    split at e
                    · cases e
                    · split at e
                      · cases e
                      · refine rowP_complete (fun d' hd' => ?_) e
                        injection hd' with hd'
                        rw [← hd']
                        unfold Dr.framed
                        split <;> exact ⟨hB.st, hB.sl, hB.many, hB.fs⟩
              · cases e
        · split at e <;> cases e
theorem rowP_run {b : Bool} : ∀ (t : Tx) {s : RS}, RdOk b s → (∀ r ∈ (run (Par b) s t).1, RowP b r) ∧ RdOk b (run (Par b) s t).2
  | [], s, h => ⟨fun r hr => absurd hr List.not_mem_nil, h⟩
  | c :: cs, s, h => by
    by_cases hf : s.fault = none
    · rw [run_cons (P := Par b) hf]
      have ih := rowP_run cs (rdok_sign h hf c)
      refine ⟨fun r hr => ?_, ih.2⟩
      rcases List.mem_append.mp hr with hr | hr
      · exact rowP_sign h hf c (by
          cases he : (readSign (Par b) s c).2 with
          | none => rw [he] at hr; cases hr
          | some m =>
            rw [he] at hr
            have : r = m := by simpa using hr
            rw [this])
      · exact ih.1 r hr
    · rw [run_fault (P := Par b) hf]
      exact ⟨fun r hr => absurd hr List.not_mem_nil, h⟩
theorem rdok_init (b : Bool) : RdOk b RS.init := ⟨by decide, fun _ => .inl ⟨rfl, rfl⟩⟩
theorem rowP_finish {b : Bool} {s : RS} (h : RdOk b s) : ∀ r ∈ (finish s).1, RowP b r := by
  intro r hr
  unfold finish at hr
  split at hr
  · cases hr
  · rename_i hf
    have hf : s.fault = none := by
      cases hz : s.fault with
      | none => rfl
      | some z => exact absurd (by rw [hz]; simp) hf
    split at hr
    · cases hr
    · split at hr
      · rename_i d hd
        split at hr
        · have : r = d.row := by simpa using hr
          rw [this]
          rcases h.st hf with ⟨hn, _⟩ | ⟨d', hd', hB, _⟩
          · rw [hn] at hd; cases hd
          · rw [hd'] at hd
            injection hd with hd
            rw [← hd]; exact rowP_of hB
        · cases hr
      · cases hr
/-! ### deep comparison -/
def fldD (f : Fld) : PyData := .tuple [.str (S f.1), .str (S f.2)]
def fldsD (fs : List Fld) : PyData := .list (fs.map fldD)
theorem fld_dp {K : PySem.W.Frag} {H : Hp} : ∀ {xs : List V} {fs : List Fld}, FldsAt H xs fs → DpAll K H xs (fs.map fldD)
  | _, _, .nil => .nil
  | _, _, .cons ⟨p, e, hp⟩ r => .cons (by rw [e]; exact .tup (SqT.of hp) (.cons (.str _) (.cons (.str _) .nil))) (fld_dp r)
def Low (t : Tx) : Prop := ∀ c ∈ t, c < 0x110000
theorem low_ok {t : Tx} (h : Low t) : PyData.strOk (S t) = true := by
  unfold PyData.strOk
  rw [Array.all_eq_true']
  intro c hc
  exact decide_eq_true (h c (by simpa [S] using hc))
theorem name_low {t : Tx} (h : isNameT t = true) : Low t := by
  unfold isNameT at h
  simp only [Bool.and_eq_true] at h
  intro c hc
  have h2 := h.2
  unfold allIn at h2
  rw [List.all_eq_true] at h2
  have h3 := h2 c hc
  have k : ∀ c ∈ nameSigns, c < 0x110000 := by decide +kernel
  exact k c (by simpa using h3)
theorem value_low {t : Tx} (h : isValueT t = true) : Low t := by
  unfold isValueT at h
  simp only [Bool.and_eq_true] at h
  intro c hc
  have h2 := h.1.2
  rw [List.all_eq_true] at h2
  have h3 := h2 c hc
  unfold isPlain at h3
  simp only [Bool.and_eq_true, decide_eq_true_eq] at h3
  omega
theorem flds_lay : ∀ {fs : List Fld}, FsOk fs → PyData.canLayAll0 (fs.map fldD) = true
  | [], _ => rfl
  | f :: fs, h => by
    have h1 := h f (List.mem_cons_self ..)
    show (PyData.canLay0 (fldD f) && PyData.canLayAll0 (fs.map fldD)) = true
    rw [flds_lay (fs := fs) fun g hg => h g (List.mem_cons_of_mem _ hg), Bool.and_true]
    show (PyData.strOk (S f.1) && (PyData.strOk (S f.2) && true)) = true
    rw [low_ok (name_low h1.1), low_ok (value_low h1.2)]
    rfl
theorem flds_depth : ∀ {fs : List Fld}, PyData.depthAll (fs.map fldD) ≤ 3
  | [] => by show PyData.depthAll [] ≤ 3; unfold PyData.depthAll; omega
  | f :: fs => by
    have ih := flds_depth (fs := fs)
    show PyData.depthAll (fldD f :: fs.map fldD) ≤ 3
    unfold PyData.depthAll
    have : (fldD f).depth ≤ 3 := by
      unfold fldD
      simp [PyData.depth, PyData.depthAll]
    omega
theorem flds_shaped {fs : List Fld} (h : FsOk fs) : SeqAt.shaped (fldsD fs) = true := by
  unfold SeqAt.shaped
  rw [Bool.and_eq_true]
  refine ⟨flds_lay h, decide_eq_true ?_⟩
  have := flds_depth (fs := fs)
  show PyData.depth (.list (fs.map fldD)) ≤ 64
  unfold PyData.depth
  omega
theorem eqv_self {d : PyData} (h : SeqAt.shaped d = true) : PyData.eqv d d = true := by
  unfold SeqAt.shaped at h
  rw [Bool.and_eq_true] at h
  exact SeqAt.eqv_refl d h.1
end K6

set_option Elab.async false
set_option linter.all false
set_option maxRecDepth 100000
set_option maxHeartbeats 4000000
/-! KL2: a told message is the row's. -/
namespace K6
open PySem PySem.Spec PyProof.Rows L2
section
variable {D : Ad} {b : Bool}
variable {P : Program} {w : World} {K : PySem.W.Frag} {mg : PySem.Str → Option Value} {base : Heap}
theorem start_words {b : Bool} {t : Tx} (h : startOkT b t = true) (hl : t.length ≤ 1000) : argsOk' b (startArgs b t) ∧ startL b (startArgs b t) = t ∧ ∃ a, words t = a :: startArgs b t := by
  obtain ⟨h1, h2, _⟩ := start_args h hl
  refine ⟨h2, h1, ?_⟩
  unfold startOkT at h
  unfold startArgs
  generalize words t = ws at h ⊢
  match b, ws, h with
  | true, [a, s], _ => exact ⟨a, rfl⟩
  | false, [a, m, p], _ => exact ⟨a, rfl⟩
theorem msgF_fields {b : Bool} {args : List Tx} {L : Addr} {bd : Tx} : (msgF b args L bd).lookup ("fields" : PySem.Str) = some (.ref L) := by
  unfold msgF hdF
  match b, args with
  | true, s :: _ => exact (lk_ne (by decide +kernel)).trans lk_eq
  | true, [] => exact lk_eq
  | false, m :: p :: _ => exact (lk_ne (by decide +kernel)).trans ((lk_ne (by decide +kernel)).trans lk_eq)
  | false, [] => exact lk_eq
  | false, [_] => exact lk_eq
theorem msgF_body {b : Bool} {args : List Tx} {L : Addr} {bd : Tx} : (msgF b args L bd).lookup ("body" : PySem.Str) = some (sV bd) := by
  unfold msgF hdF
  match b, args with
  | true, s :: _ => exact (lk_ne (by decide +kernel)).trans ((lk_ne (by decide +kernel)).trans lk_eq)
  | true, [] => exact (lk_ne (by decide +kernel)).trans lk_eq
  | false, m :: p :: _ => exact (lk_ne (by decide +kernel)).trans ((lk_ne (by decide +kernel)).trans ((lk_ne (by decide +kernel)).trans lk_eq))
  | false, [] => exact (lk_ne (by decide +kernel)).trans lk_eq
  | false, [_] => exact (lk_ne (by decide +kernel)).trans lk_eq
theorem clsN (O : Obs P K mg D) (b : Bool) {f : PySem.Str} (h : f ∈ (["fields", "body"] : List PySem.Str)) : NoAttr K (D.cls b) f := by
  simp only [List.mem_cons, List.not_mem_nil, or_false] at h
  cases b
  · rcases h with rfl | rfl
    · exact O.rqN _ (by simp)
    · exact O.rqN _ (by simp)
  · rcases h with rfl | rfl
    · exact O.rsN _ (by simp)
    · exact O.rsN _ (by simp)
def sp__law_same (D : Ad) : Sp := fun vs H Q _ => ∃ (b : Bool) (x y : V) (r : Row) (N1 N2 : Addr → Prop), vs = [x, sideV b, y] ∧ MsgAt D b N1 H x (startArgs b r.start) r.fields r.body ∧ RowAt N2 H y r ∧ RowP b r ∧ ∀ H', Same H H' → Q (.bl true) H'
theorem ok__law_same (T : Txt K mg) (O : Obs P K mg D) : Ok P w K mg base CX0 "_law_same" 4 ["_law_told", "_law_side", "_law_row_here"] (sp__law_same D) := by
  obtain ⟨f, fd, hm, F⟩ := T._law_same
  refine ⟨f, fd, hm, F.kp, F.binds fun _ _ _ _ _ _ us hl => match us, hl with | [_, _, _], _ => rfl, F.ok sc__law_same (fun vs H Q E h => ?_) (fun cdv A outer s H vs Q E hr h => ?_)⟩
  · obtain ⟨b, x, y, r, N1, N2, rfl, _⟩ := h
    rfl
  · obtain ⟨b, x, y, r, N1, N2, rfl, hx, hy, hr', q⟩ := h
    obtain ⟨p, dx, L, xs, rfl, _, _, g1, g2, g3⟩ := hx
    obtain ⟨p2, fa, ys, rfl, k1, _, k2, k3⟩ := hy
    have hl1 : r.start.length ≤ 1000 := Nat.le_trans hr'.sl (by decide)
    obtain ⟨hargs, hL, a0, hw⟩ := start_words hr'.st hl1
    refine ⟨_, pss_cons (ps_set (i := 3) sc__law_same.nd rfl (Or.inl rfl) (pe_split (pe_ix ix_tup (pv 2) pe_int (fun _ _ => rfl)) pe_str)) (pss_cons (ps_if (pt_cmpR op_eq (pv 1) pe_str (nomark _)) (pss_cons (ps_if (PW.pt (pw_or (pt_not (pt_val (pe_callB call_isi rfl T.isinstance (by decide +kernel) (pa_cons (pv 0) (pa_cons (pe_glob (v := .ref D.req) rfl O.rq rfl) pa_nil))))) (pw_or1 (pt_val (pe_callB call_isi rfl T.isinstance (by decide +kernel) (pa_cons (pv 0) (pa_cons (pe_glob (v := .ref D.rsp) rfl O.rs rfl) pa_nil))))))) (pss_one (ps_ret pe_bl)) pss_nil) (pss_one (ps_if (PW.pt (pw_or (pt_cmpR op_ne (pe_fld (pv 0) rfl) (pe_ix ix_list (pv 3) pe_int (fun _ _ => rfl)) (nomark _)) (pw_or1 (pt_cmpR op_ne (pe_fld (pv 0) rfl) (pe_ix ix_list (pv 3) pe_int (fun _ _ => rfl)) (nomark _))))) (pss_one (ps_ret pe_bl)) pss_nil))) (pss_one (ps_if (PW.pt (pw_or (pt_not (pt_val (pe_callB call_isi rfl T.isinstance (by decide +kernel) (pa_cons (pv 0) (pa_cons (pe_glob (v := .ref D.rsp) rfl O.rs rfl) pa_nil))))) (pw_or (pt_val (pe_callB call_isi rfl T.isinstance (by decide +kernel) (pa_cons (pv 0) (pa_cons (pe_glob (v := .ref D.req) rfl O.rq rfl) pa_nil)))) (pw_or1 (pt_cmpR op_ne (pe_fld (pv 0) rfl) (pe_ix ix_list (pv 3) pe_int (fun _ _ => rfl)) (nomark _)))))) (pss_one (ps_ret pe_bl)) pss_nil))) (pss_cons (ps_if (PW.pt (pw_or (pt_not (pt_val (pe_callB call_isi rfl T.isinstance (by decide +kernel) (pa_cons (pe_fld (pv 0) rfl) (pa_cons (pe_bltn (v := .ty "list") (by rfl) T.list (by decide +kernel) rfl) pa_nil))))) (pw_or1 (pt_cmpR (op_neD hr.units) (pe_fld (pv 0) rfl) (pe_ix ix_tup (pv 2) pe_int (fun _ _ => rfl)) (nomark _))))) (pss_one (ps_ret pe_bl)) pss_nil) (pss_one (ps_ret (pe_and (pe_cmpR op_eq (pe_propO (ok_start T O b) (pv 0) (clsC O b) hr) (pe_ix ix_tup (pv 2) pe_int (fun _ _ => rfl)) (nomark _)) (pe_and (pe_callB call_isi rfl T.isinstance (by decide +kernel) (pa_cons (pe_fld (pv 0) rfl) (pa_cons (pe_bltn (v := .ty "str") (by rfl) T.str (by decide +kernel) rfl) pa_nil))) (pe_one (pe_cmpR op_eq (pe_fld (pv 0) rfl) (pe_ix ix_tup (pv 2) pe_int (fun _ _ => rfl)) (nomark _))))))))), ?_⟩
    refine seq_mid (fun σ' H' => ∃ pw, σ' = [some (.ref p), some (sideV b), some (.ref p2), some (.ref pw)] ∧ Same H H' ∧ H' pw = some (.lst ((words r.start).map sV))) ?_ (fun nx hnx => ⟨_, rfl, p2, _, _, _, rfl, rfl, SqT.of k1, atI_nat (j := 0) rfl, ⟨_, rfl⟩, _, _, rfl, rfl, by decide +kernel, by rw [S_len]; exact Nat.le_trans (Nat.add_le_add_right hl1 2) (by decide), fun pw hp => ?_⟩)
    rotate_left
    · rw [sp_S, split_words, List.map_map]
      exact hnx _ _ ⟨pw, rfl, same_new hp, upd_same⟩
    rintro σ1 H1 ⟨pw, rfl, s1, l1⟩
    rw [hw] at l1
    have g1' := s1 _ _ g1
    have g2' := s1 _ _ g2
    have g3' := g3.mono fun b ys e => s1 _ _ e
    have k1' := s1 _ _ k1
    have k2' := s1 _ _ k2
    have k3' := k3.mono fun b ys e => s1 _ _ e
    have ins : TyX K H1 (.ref p) (.ref (D.cls b)) := .base (.ins g1' (clsC O b) (O.tyC b).1 (O.tyC b).2.1 (O.tyC b).2.2.1 (O.tyC b).2.2.2)
    have deep : SeqAt.shaped (fldsD r.fields) = true := flds_shaped hr'.fs
    refine seq_mid (fun σ' H' => σ' = [some (.ref p), some (sideV b), some (.ref p2), some (.ref pw)] ∧ H' = H1) ?_ ?_
    · rintro σ2 H2 ⟨rfl, rfl⟩
      have lst : TyX K H2 (.ref L) (.type "list") := .base (.lst g2')
      refine ⟨_, rfl, p, D.cls b, dx, _, _, rfl, g1', clsC O b, clsN O b (by simp), msgF_fields, .ref L, .ty "list", _, _, true, rfl, .ty _, lst, kit_ty (by decide +kernel), _, rfl, iteF ?_⟩
      refine ⟨_, rfl, p, D.cls b, dx, _, _, rfl, g1', clsC O b, clsN O b (by simp), msgF_fields, _, rfl, p2, _, _, _, rfl, rfl, SqT.of k1', atI_nat (j := 1) rfl, fldsD r.fields, fldsD r.fields, .lst (SqL.of g2') (fld_dp g3'), .lst (SqL.of k2') (fld_dp k3'), deep, deep, ?_⟩
      rw [eqv_self deep]
      refine ⟨_, rfl, iteF ?_⟩
      refine ⟨_, rfl, p, dx, _, rfl, g1', p, dx, L, _, _, rfl, g1', hargs, ?_⟩
      rw [hL]
      refine ⟨_, rfl, p2, _, _, _, rfl, rfl, SqT.of k1', atI_nat (j := 0) rfl, rfl, _, rfl, ?_⟩
      rw [decide_eq_true rfl]
      refine iteT ?_
      refine ⟨_, rfl, p, D.cls b, dx, _, _, rfl, g1', clsC O b, clsN O b (by simp), msgF_body, sV r.body, .ty "str", _, _, true, rfl, .ty _, .base (.str _), kit_ty (by decide +kernel), _, rfl, iteT ?_⟩
      refine ⟨_, rfl, p, D.cls b, dx, _, _, rfl, g1', clsC O b, clsN O b (by simp), msgF_body, _, rfl, p2, _, _, _, rfl, rfl, SqT.of k1', atI_nat (j := 2) rfl, rfl, ?_⟩
      rw [decide_eq_true (show sV r.body = V.str (S r.body) from rfl)]
      exact q _ s1
    intro nx hnx
    cases b with
    | false =>
      match hsa : startArgs false r.start, hargs with
      | [m, pt], _ =>
      rw [hsa] at g1' l1
      have l1 : H1 pw = some (.lst [sV a0, sV m, sV pt]) := l1
      refine ⟨_, rfl, rfl, _, rfl, iteT ?_⟩
      refine ⟨_, rfl, .ref p, .ref D.req, _, _, true, rfl, .own _, ins, O.isi false false, _, rfl, iteF ?_⟩
      refine ⟨_, rfl, .ref p, .ref D.rsp, _, _, false, rfl, .own _, ins, O.isi false true, _, rfl, iteF ?_⟩
      refine ⟨_, rfl, p, D.req, dx, _, _, rfl, g1', O.rqC, O.rqN _ (by simp), lk_eq, _, rfl, pw, _, _, _, rfl, rfl, SqL.of l1, atI_nat (j := 1) rfl, rfl, _, rfl, ?_⟩
      rw [decide_eq_true rfl]
      refine iteF ⟨_, rfl, p, D.req, dx, _, _, rfl, g1', O.rqC, O.rqN _ (by simp), (lk_ne (by decide +kernel)).trans lk_eq, _, rfl, pw, _, _, _, rfl, rfl, SqL.of l1, atI_nat (j := 2) rfl, rfl, _, rfl, ?_⟩
      rw [decide_eq_true rfl]
      exact iteF (hnx _ _ ⟨rfl, rfl⟩)
    | true =>
      match hsa : startArgs true r.start, hargs with
      | [m], _ =>
      rw [hsa] at g1' l1
      have l1 : H1 pw = some (.lst [sV a0, sV m]) := l1
      refine ⟨_, rfl, rfl, _, rfl, iteF ?_⟩
      refine ⟨_, rfl, .ref p, .ref D.rsp, _, _, true, rfl, .own _, ins, O.isi true true, _, rfl, iteF ?_⟩
      refine ⟨_, rfl, .ref p, .ref D.req, _, _, false, rfl, .own _, ins, O.isi true false, _, rfl, iteF ?_⟩
      refine ⟨_, rfl, p, D.rsp, dx, _, _, rfl, g1', O.rsC, O.rsN _ (by simp), lk_eq, _, rfl, pw, _, _, _, rfl, rfl, SqL.of l1, atI_nat (j := 1) rfl, rfl, _, rfl, ?_⟩
      rw [decide_eq_true rfl]
      exact iteF (hnx _ _ ⟨rfl, rfl⟩)
end
end K6

set_option Elab.async false
set_option linter.all false
set_option maxRecDepth 100000
set_option maxHeartbeats 4000000
/-! KL3: all told messages; where a reader stands. -/
namespace K6
open PySem PySem.Spec PyProof.Rows L2
section
variable {D : Ad} {b : Bool}
variable {P : Program} {w : World} {K : PySem.W.Frag} {mg : PySem.Str → Option Value} {base : Heap}
theorem paired_at {α β : Type} {R : α → β → Prop} : ∀ {xs : List α} {ys : List β}, Paired R xs ys → ∀ {i : Nat} (h : i < ys.length), ∃ x, xs[i]? = some x ∧ R x ys[i]
  | _, _, .nil, i, h => absurd h (Nat.not_lt_zero _)
  | _, _, .cons h r, 0, _ => ⟨_, rfl, h⟩
  | _, _, .cons h r, i + 1, hi => paired_at r (Nat.lt_of_succ_lt_succ hi)
def sp__law_all_same (D : Ad) : Sp := fun vs H Q _ => ∃ (b : Bool) (l p : Addr) (xs ys : List V) (rows : List Row) (N1 N2 : Addr → Prop), vs = [.ref l, sideV b, .ref p] ∧ H l = some (.lst xs) ∧ H p = some (.lst ys) ∧
  MsgsAt D b N1 H xs rows ∧ RowsAt N2 H ys rows ∧ (∀ r ∈ rows, RowP b r) ∧ rows.length ≤ 5000000 ∧ ∀ H', Same H H' → Q (.bl true) H'
theorem ok__law_all_same (T : Txt K mg) (O : Obs P K mg D) : Ok P w K mg base CX0 "_law_all_same" 6 ["_law_told", "_law_side", "_law_rows"] (sp__law_all_same D) := by
  obtain ⟨f, fd, hm, F⟩ := T._law_all_same
  refine ⟨f, fd, hm, F.kp, F.binds fun _ _ _ _ _ _ us hl => match us, hl with | [_, _, _], _ => rfl, F.ok sc__law_all_same (fun vs H Q E h => ?_) (fun cdv A outer s H vs Q E hr h => ?_)⟩
  · obtain ⟨b, l, p, xs, ys, rows, N1, N2, rfl, _⟩ := h
    rfl
  · obtain ⟨b, l, p, xs, ys, rows, N1, N2, rfl, h1, h2, h3, h4, h5, hlen, q⟩ := h
    have e1 : xs.length = rows.length := Paired.length h3
    have e2 : ys.length = rows.length := Paired.length h4
    refine ⟨_, pss_cons (ps_if (PW.pt (pw_or (pt_not (pt_val (pe_callB call_isi rfl T.isinstance (by decide +kernel) (pa_cons (pv 0) (pa_cons (pe_bltn (v := .ty "list") (by rfl) T.list (by decide +kernel) rfl) pa_nil))))) (pw_or1 (pt_cmpR op_ne (pe_callB call_len_seq rfl T.len (by decide +kernel) (pa_cons (pv 0) pa_nil)) (pe_callB call_len_seq rfl T.len (by decide +kernel) (pa_cons (pv 2) pa_nil)) (nomark _))))) (pss_one (ps_ret pe_bl)) pss_nil) (pss_cons (ps_for PassesOwn.never rfl (pi_range1 rfl T.range (pa_cons (pe_callB call_len_seq rfl T.len (by decide +kernel) (pa_cons (pv 2) pa_nil)) pa_nil)) (pg_name (i := 3) sc__law_all_same.nd rfl (Or.inl rfl)) (pss_one (ps_if (pt_not (pt_val (pe_callO (ok__law_same T O) hr rfl (pa_cons (pe_ix ix_list (pv 0) (pv 3) (fun _ _ => rfl)) (pa_cons (pv 1) (pa_cons (pe_ix ix_list (pv 2) (pv 3) (fun _ _ => rfl)) pa_nil)))))) (pss_one (ps_ret pe_bl)) pss_nil))) (pss_one (ps_ret pe_bl))), ?_⟩
    refine ⟨_, rfl, .ref l, .ty "list", _, _, true, rfl, .ty _, .base (.lst h1), kit_ty (by decide +kernel), _, rfl, iteF ?_⟩
    refine ⟨_, rfl, l, _, rfl, .inl (SqL.of h1), _, rfl, p, _, rfl, .inl (SqL.of h2), rfl, ?_⟩
    rw [e1, e2, decide_eq_true rfl]
    refine ⟨_, rfl, iteF ?_⟩
    refine ⟨_, rfl, p, _, rfl, .inl (SqL.of h2), ?_⟩
    rw [e2]
    refine ⟨_, rfl, by omega, by omega, ?_⟩
    rw [Int.toNat_natCast]
    refine for_it (n := rows.length) (G := fun _ => True) walk_range (fun i σ H' => ∃ v, σ = [some (.ref l), some (sideV b), some (.ref p), v] ∧ Same H H') ⟨_, rfl, same_refl⟩ (fun _ _ _ _ _ => trivial) ?_ ?_
    · rintro i x σ H2 H3 hi ⟨v, rfl, s1⟩ ⟨rfl, rfl⟩
      obtain ⟨x, hx, mx⟩ := paired_at h3 hi
      obtain ⟨y, hy, my⟩ := paired_at h4 hi
      refine ⟨_, rfl, _, rfl, l, _, _, _, rfl, rfl, SqL.of (s1 _ _ h1), by rw [Int.zero_add]; exact atI_nat (j := i) hx, _, rfl, _, rfl, _, rfl, p, _, _, _, rfl, rfl, SqL.of (s1 _ _ h2), by rw [Int.zero_add]; exact atI_nat (j := i) hy, b, x, y, rows[i], N1, N2, rfl, mx.same s1, my.same s1, h5 _ (List.getElem_mem hi), fun H4 s2 => ?_⟩
      exact ⟨_, rfl, iteF ⟨_, rfl, s1.trans s2⟩⟩
    · rintro σ H2 ⟨v, rfl, s1⟩
      exact q _ s1
/-! ### getters -/
def sp_get (D : Ad) (k : PySem.Str) : Sp := fun vs H Q _ => ∃ (r dx : Addr) (fs : List (PySem.Str × V)) (v : V), vs = [.ref r] ∧ H r = some (.ins D.rdr dx fs) ∧ fs.lookup k = some v ∧ Q v H
theorem ok_stage (T : Txt K mg) (O : Obs P K mg D) : OkP P w K mg base D.rdr "stage" 1 (sp_get D "stage_name") := by
  obtain ⟨p, g, fd, h1, F⟩ := O.rdS
  refine ⟨p, g, fd, h1, F.binds fun _ _ _ _ _ _ us hl => match us, hl with | [_], _ => rfl, F.ok sc_Reader_stage (fun vs H Q E h => ?_) (fun cdv A outer s H vs Q E hr h => ?_)⟩
  · obtain ⟨r, dx, fs, v, rfl, _⟩ := h
    rfl
  · obtain ⟨r, dx, fs, v, rfl, h1, h2, q⟩ := h
    refine ⟨_, pss_one (ps_ret (pe_fld (pv 0) rfl)), ?_⟩
    exact ⟨_, rfl, r, D.rdr, dx, _, _, rfl, h1, O.rdC, rdA O (by simp), h2, q⟩
theorem ok_fault (T : Txt K mg) (O : Obs P K mg D) : OkP P w K mg base D.rdr "fault" 1 (sp_get D "fault_found") := by
  obtain ⟨p, g, fd, h1, F⟩ := O.rdF
  refine ⟨p, g, fd, h1, F.binds fun _ _ _ _ _ _ us hl => match us, hl with | [_], _ => rfl, F.ok sc_Reader_fault (fun vs H Q E h => ?_) (fun cdv A outer s H vs Q E hr h => ?_)⟩
  · obtain ⟨r, dx, fs, v, rfl, _⟩ := h
    rfl
  · obtain ⟨r, dx, fs, v, rfl, h1, h2, q⟩ := h
    refine ⟨_, pss_one (ps_ret (pe_fld (pv 0) rfl)), ?_⟩
    exact ⟨_, rfl, r, D.rdr, dx, _, _, rfl, h1, O.rdC, rdA O (by simp), h2, q⟩
theorem ok_completed (T : Txt K mg) (O : Obs P K mg D) : OkP P w K mg base D.rdr "completed" 1 (sp_get D "messages_done") := by
  obtain ⟨p, g, fd, h1, F⟩ := O.rdD
  refine ⟨p, g, fd, h1, F.binds fun _ _ _ _ _ _ us hl => match us, hl with | [_], _ => rfl, F.ok sc_Reader_completed (fun vs H Q E h => ?_) (fun cdv A outer s H vs Q E hr h => ?_)⟩
  · obtain ⟨r, dx, fs, v, rfl, _⟩ := h
    rfl
  · obtain ⟨r, dx, fs, v, rfl, h1, h2, q⟩ := h
    refine ⟨_, pss_one (ps_ret (pe_fld (pv 0) rfl)), ?_⟩
    exact ⟨_, rfl, r, D.rdr, dx, _, _, rfl, h1, O.rdC, rdA O (by simp), h2, q⟩
end
end K6

set_option Elab.async false
set_option linter.all false
set_option maxRecDepth 100000
set_option maxHeartbeats 4000000
/-! KL4: where a reader stands. -/
namespace K6
open PySem PySem.Spec PyProof.Rows L2
section
variable {D : Ad} {b : Bool}
variable {P : Program} {w : World} {K : PySem.W.Frag} {mg : PySem.Str → Option Value} {base : Heap}
def fkD : FK → PyData
  | .character => .str (PySem.Str.ofString "character")
  | .long => .str (PySem.Str.ofString "long")
  | .start => .str (PySem.Str.ofString "start")
  | .field => .str (PySem.Str.ofString "field")
  | .length => .str (PySem.Str.ofString "length")
  | .many => .str (PySem.Str.ofString "many")
  | .chunk => .str (PySem.Str.ofString "chunk")
  | .cut => .str (PySem.Str.ofString "cut")
def fltD : Flt → PyData
  | none => .none
  | some (k, i) => .tuple [fkD k, .int i]
theorem fk_dp {K : PySem.W.Frag} {H : Hp} (k : FK) : Dp K H (fkV k) (fkD k) := by cases k <;> exact .str _
theorem flt_dp {K : PySem.W.Frag} {H : Hp} {x : V} : ∀ {f : Flt}, FltAt H x f → Dp K H x (fltD f)
  | none, h => by
    have h : x = .non := h
    rw [h]; exact .non
  | some (k, i), ⟨p, e, hp⟩ => by
    rw [e]; exact .tup (SqT.of hp) (.cons (fk_dp k) (.cons (.int i) .nil))
theorem fk_lay (k : FK) : (fkD k).canLay0 = true := by cases k <;> decide +kernel
theorem flt_shaped : ∀ f : Flt, SeqAt.shaped (fltD f) = true
  | none => by decide +kernel
  | some (k, i) => by
    unfold SeqAt.shaped
    rw [Bool.and_eq_true]
    refine ⟨?_, decide_eq_true ?_⟩
    · show ((fkD k).canLay0 && (true && true)) = true
      rw [fk_lay]; rfl
    · show PyData.depth (.tuple [fkD k, .int i]) ≤ 64
      cases k <;> simp [PyData.depth, PyData.depthAll, fkD]
def sp__law_stands (D : Ad) : Sp := fun vs H Q _ => ∃ (b e : Bool) (r : Addr) (F : List Addr) (s : RS) (y : V), vs = [.ref r, stgV s.stage, y, .int (s.done : Nat)] ∧ RdAt D b e H r F s ∧ FltAt H y s.fault ∧ Q (.bl true) H
theorem ok__law_stands (T : Txt K mg) (O : Obs P K mg D) : Ok P w K mg base CX0 "_law_stands" 3 ["_law_reader", "_law_stage", "_law_fault", "_law_many"] (sp__law_stands D) := by
  obtain ⟨f, fd, hm, F⟩ := T._law_stands
  refine ⟨f, fd, hm, F.kp, F.binds fun _ _ _ _ _ _ us hl => match us, hl with | [_, _, _, _], _ => rfl, F.ok sc__law_stands (fun vs H Q E h => ?_) (fun cdv A outer s H vs Q E hr h => ?_)⟩
  · obtain ⟨b, e, r, F, s, y, rfl, _⟩ := h
    rfl
  · obtain ⟨b, e, r, F, s, y, rfl, hrd, hy, q⟩ := h
    obtain ⟨dx, fx, dv, h1, h2, h3⟩ := hrd
    have hfs := flt_shaped s.fault
    refine ⟨_, pss_cons (ps_if (PW.pt (pw_or (pt_cmpR op_ne (pe_propO (ok_stage T O) (pv 0) O.rdC hr) (pv 1) (nomark _)) (pw_or1 (pt_cmpR (op_neD hr.units) (pe_propO (ok_fault T O) (pv 0) O.rdC hr) (pv 2) (nomark _))))) (pss_one (ps_ret pe_bl)) pss_nil) (pss_cons (ps_set (i := 4) sc__law_stands.nd rfl (Or.inl rfl) (pe_propO (ok_completed T O) (pv 0) O.rdC hr)) (pss_one (ps_ret (pe_and (pe_callB call_isi rfl T.isinstance (by decide +kernel) (pa_cons (pv 4) (pa_cons (pe_bltn (v := .ty "int") (by rfl) T.int (by decide +kernel) rfl) pa_nil))) (pe_and (pe_not (pe_callB call_isi rfl T.isinstance (by decide +kernel) (pa_cons (pv 4) (pa_cons (pe_bltn (v := .ty "bool") (by rfl) T.bool (by decide +kernel) rfl) pa_nil)))) (pe_one (pe_cmpR op_eq (pv 4) (pv 3) (nomark _)))))))), ?_⟩
    refine ⟨_, rfl, r, dx, _, rfl, h1, r, dx, _, _, rfl, h1, rdr_stage_name, _, rfl, (by cases s.stage <;> rfl), _, rfl, ?_⟩
    rw [decide_eq_true rfl]
    refine iteF ⟨_, rfl, r, dx, _, rfl, h1, r, dx, _, _, rfl, h1, rdr_fault_found, _, rfl, fltD s.fault, fltD s.fault, flt_dp h2, flt_dp hy, hfs, hfs, ?_⟩
    rw [eqv_self hfs]
    refine ⟨_, rfl, iteF ?_⟩
    refine ⟨_, rfl, r, dx, _, rfl, h1, r, dx, _, _, rfl, h1, rdr_messages_done, ?_⟩
    refine ⟨_, rfl, _, .ty "int", _, _, true, rfl, .ty _, .base (.int _), kit_ty (by decide +kernel), _, rfl, iteT ?_⟩
    refine ⟨_, rfl, _, .ty "bool", _, _, false, rfl, .ty _, .base (.int _), kit_ty (by decide +kernel), _, rfl, _, rfl, iteT ?_⟩
    refine ⟨_, rfl, _, rfl, rfl, ?_⟩
    rw [decide_eq_true rfl]
    exact q
end
end K6

set_option Elab.async false
set_option linter.all false
set_option maxRecDepth 100000
set_option maxHeartbeats 4000000
/-! KL5: a piece fed. -/
namespace K6
open PySem PySem.Spec PyProof.Rows L2
section
variable {D : Ad} {b : Bool}
variable {P : Program} {w : World} {K : PySem.W.Frag} {mg : PySem.Str → Option Value} {base : Heap}
theorem run_len {P : Pm} : ∀ (t : Tx) (s : RS), (run P s t).1.length ≤ t.length
  | [], s => Nat.le_refl _
  | c :: cs, s => by
    by_cases hf : s.fault = none
    · rw [run_cons (P := P) hf]
      have ih := run_len (P := P) cs (readSign P s c).1
      rw [List.length_append, List.length_cons]
      have : (readSign P s c).2.toList.length ≤ 1 := by cases (readSign P s c).2 <;> simp
      omega
    · rw [run_fault (P := P) hf]
      exact Nat.zero_le _
theorem RowAt.step {N N' : Addr → Prop} {H H' : Hp} {x : V} {r : Row} (h : RowAt N H x r) (k : ∀ a o, H a = some o → N a → H' a = some o) (kt : ∀ a ys, H a = some (.tup ys) → H' a = some (.tup ys)) : RowAt N H' x r := by
  obtain ⟨p, fa, xs, e, h1, hn, h2, h3⟩ := h
  exact ⟨p, fa, xs, e, kt _ _ h1, hn, k _ _ h2 hn, h3.mono kt⟩
theorem RowsAt.step {N : Addr → Prop} {H H' : Hp} {xs : List V} {rs : List Row} (h : RowsAt N H xs rs) (k : ∀ a o, H a = some o → N a → H' a = some o) (kt : ∀ a ys, H a = some (.tup ys) → H' a = some (.tup ys)) : RowsAt N H' xs rs := Paired.mapP h fun _ _ g => RowAt.step (N' := N) g k kt
theorem paired_drop {α β : Type} {R : α → β → Prop} : ∀ {xs : List α} {ys : List β}, Paired R xs ys → ∀ k, Paired R (xs.drop k) (ys.drop k)
  | _, _, .nil, 0 => .nil
  | _, _, .nil, _ + 1 => .nil
  | _, _, .cons h r, 0 => .cons h r
  | _, _, .cons _ r, k + 1 => paired_drop r k
theorem cutV_from (xs : List V) (k : Nat) : cutV xs (some (k : Int)) none = xs.drop k := by
  unfold cutV
  rw [HT.sIx_none, HT.sIx_nat]
  by_cases h : k ≤ xs.length
  · rw [Nat.min_eq_left h, List.take_of_length_le (by rw [List.length_drop]; omega)]
  · rw [Nat.min_eq_right (by omega), List.drop_length, List.drop_of_length_le (by omega), List.take_nil]
/-- the reader's footprint holds no tuple, what a step keeps -/
theorem keepN {F F' : List Addr} {H H' : Hp} (f : Fr' F H H' F') {G : Hp} (hG : ∀ a ∈ F, G a ≠ none) : ∀ a o, H a = some o → G a = none → H' a = some o := fun a o e n => f.keep a o e fun z => hG a z n
theorem keepT {F F' : List Addr} {H H' : Hp} (f : Fr' F H H' F') (nt : ∀ a ∈ F, ∀ ys, H a ≠ some (.tup ys)) : ∀ a ys, H a = some (.tup ys) → H' a = some (.tup ys) := fun a ys e => f.keep a _ e fun z => nt a z ys e
def sp__law_fed (D : Ad) : Sp := fun vs H Q _ => ∃ (b : Bool) (r : Addr) (t u : Tx) (F : List Addr), vs = [.ref r, sideV b, .str (S t), .str (S u)] ∧ t.length + u.length ≤ 4000000 ∧ RdAt D b false H r F (run (Par b) RS.init t).2 ∧
  ∀ H' F', Fr' F H H' F' → RdAt D b false H' r F' (run (Par b) RS.init (t ++ u)).2 → Q (.bl true) H'
theorem ok__law_fed (T : Txt K mg) (O : Obs P K mg D) : Ok P w K mg base CX0 "_law_fed" 15 ["_law_reader", "_law_side", "_law_before", "_law_piece"] (sp__law_fed D) := by
  obtain ⟨f, fd, hm, F⟩ := T._law_fed
  refine ⟨f, fd, hm, F.kp, F.binds fun _ _ _ _ _ _ us hl => match us, hl with | [_, _, _, _], _ => rfl, F.ok sc__law_fed (fun vs H Q E h => ?_) (fun cdv A outer s H vs Q E hr h => ?_)⟩
  · obtain ⟨b, r, t, u, F, rfl, _⟩ := h
    rfl
  · obtain ⟨b, r, t, u, F, rfl, hl, hrd, q⟩ := h
    have A1 := agrees (P := Par b) t
    have A2 := agrees (P := Par b) (t ++ u)
    have hok := (rowP_run (b := b) t (rdok_init b)).2
    have hrows := (rowP_run (b := b) u hok).1
    have happ := run_append (P := Par b) t u RS.init
    have hlen := run_len (P := Par b) u (run (Par b) RS.init t).2
    have hr2 : (run (Par b) RS.init (t ++ u)).2 = (run (Par b) (run (Par b) RS.init t).2 u).2 := by rw [happ]
    have hr1 : (reading (Par b) (t ++ u)).rows.drop (reading (Par b) t).rows.length = (run (Par b) (run (Par b) RS.init t).2 u).1 := by
      rw [← A2.rows, ← A1.rows, happ]
      exact List.drop_left
    rw [hr2] at q A2
    refine ⟨_, pss_cons (ps_set (i := 4) sc__law_fed.nd rfl (Or.inl rfl) (pe_callB call_len_seq rfl T.len (by decide +kernel) (pa_cons (pe_ix ix_list (pe_callO (ok__law_reading T) hr rfl (pa_cons (pv 1) (pa_cons (pv 2) pa_nil))) pe_int (fun _ _ => rfl)) pa_nil))) (pss_cons (ps_set (i := 5) sc__law_fed.nd rfl (Or.inl rfl) (pe_callO (ok__law_reading T) hr rfl (pa_cons (pv 1) (pa_cons (pe_op op_add_str (pv 2) (pv 3)) pa_nil)))) (pss_cons (ps_set (i := 6) sc__law_fed.nd rfl (Or.inl rfl) (pe_methO (ok_Reader_feed (b := b) T O) (pv 0) O.rdC hr (pa_cons (pv 3) pa_nil))) (pss_cons (ps_if (pt_not (pt_val (pe_callO (ok__law_all_same T O) hr rfl (pa_cons (pv 6) (pa_cons (pv 1) (pa_cons (pe_slice sl_list (pe_ix ix_list (pv 5) pe_int (fun _ _ => rfl)) (po_some (pv 4)) po_none) pa_nil)))))) (pss_one (ps_ret pe_bl)) pss_nil) (pss_cons (ps_expr (pe_bm PySem.F.plainAttrs_list PySem.F.slot_list_append PySem.F.type_list_append mt_append (pv 6) (pa_cons pe_str pa_nil))) (pss_one (ps_ret (pe_callO (ok__law_stands T O) hr rfl (pa_cons (pv 0) (pa_cons (pe_ix ix_list (pv 5) pe_int (fun _ _ => rfl)) (pa_cons (pe_ix ix_list (pv 5) pe_int (fun _ _ => rfl)) (pa_cons (pe_callB call_len_seq rfl T.len (by decide +kernel) (pa_cons (pe_ix ix_list (pv 5) pe_int (fun _ _ => rfl)) pa_nil)) pa_nil))))))))))), ?_⟩
    refine seq_mid (fun σ' H' => Same H H' ∧ σ' = [some (.ref r), some (sideV b), some (.str (S t)), some (.str (S u)), some (.int ((reading (Par b) t).rows.length : Nat)), none, none]) ?_ ?_
    rotate_left
    · intro nx hnx
      refine ⟨_, rfl, _, rfl, b, t, rfl, by omega, fun H1 r1 s1 hR => ?_⟩
      obtain ⟨p, xs, y, z, k1, n1, n2, k2, k3, k4, k5⟩ := hR
      refine ⟨r1, _, _, _, rfl, rfl, SqL.of k1, atI_nat (j := 0) rfl, p, _, rfl, .inl (SqL.of k2), ?_⟩
      rw [Paired.length k3]
      exact hnx _ _ ⟨s1, rfl⟩
    rintro σ1 H1 ⟨s1, rfl⟩
    refine seq_mid (fun σ' H' => ∃ d, Same H1 H' ∧ ReadAt (fun x => H1 x = none) H' d (reading (Par b) (t ++ u)) ∧ σ' = [some (.ref r), some (sideV b), some (.str (S t)), some (.str (S u)), some (.int ((reading (Par b) t).rows.length : Nat)), some (.ref d), none]) ?_ ?_
    rotate_left
    · intro nx hnx
      refine ⟨_, rfl, _, rfl, _, rfl, _, _, rfl, rfl, by rw [S_len, S_len]; exact Nat.le_trans hl (by decide), ?_⟩
      rw [S_app]
      exact ⟨b, t ++ u, rfl, by rw [List.length_append]; exact hl, fun H2 d s2 hR => hnx _ _ ⟨d, s2, hR, rfl⟩⟩
    rintro σ2 H2 ⟨d, s2, hR, rfl⟩
    have rd1 := hrd.same s1
    have rd2 := rd1.same s2
    obtain ⟨p, xs, y, z, k1, n1, n2, k2, k3, k4, k5⟩ := hR
    have hF1 := rd1.hasF
    obtain ⟨dx, fx, dv, g1, g2, g3⟩ := id rd2
    refine seq_mid (fun σ' H' => ∃ l F' us, Fr' F H2 H' F' ∧ RdAt D b false H' r F' (run (Par b) (run (Par b) RS.init t).2 u).2 ∧ H2 l = none ∧ l ∉ F' ∧ H' l = some (.lst us) ∧ MsgsAt D b (fun a => H2 a = none ∧ a ∉ F' ∧ a ≠ l) H' us (run (Par b) (run (Par b) RS.init t).2 u).1 ∧
      σ' = [some (.ref r), some (sideV b), some (.str (S t)), some (.str (S u)), some (.int ((reading (Par b) t).rows.length : Nat)), some (.ref d), some (.ref l)]) ?_ ?_
    rotate_left
    · intro nx hnx
      refine ⟨_, rfl, r, dx, _, rfl, g1, rdr_no (by decide +kernel), _, rfl, r, u, F, _, rfl, by omega, rd2, hok, fun H3 F3 l us f3 rd3 ok3 hl0 hlF hl3 hm => ?_⟩
      exact hnx _ _ ⟨l, F3, us, f3, rd3, hl0, hlF, hl3, hm, rfl⟩
    rintro σ3 H3 ⟨l, F3, us, f3, rd3, hl0, hlF, hl3, hm, rfl⟩
    have kN := keepN f3 hF1
    have kT := keepT f3 rd2.notup
    have k1' := kN _ _ k1 n1
    have k2' := kN _ _ k2 n2
    have k3' := RowsAt.step k3 kN kT
    have k4' := k4.mono kT
    have hlx : H1 l = none := by
      cases hz : H1 l with
      | none => rfl
      | some o => rw [s2 _ _ hz] at hl0; cases hl0
    have ul : us.length = (run (Par b) (run (Par b) RS.init t).2 u).1.length := Paired.length hm
    refine seq_mid (fun σ' H' => σ' = [some (.ref r), some (sideV b), some (.str (S t)), some (.str (S u)), some (.int ((reading (Par b) t).rows.length : Nat)), some (.ref d), some (.ref l)] ∧ Same H3 H') ?_ ?_
    rotate_left
    · intro nx hnx
      refine ⟨_, rfl, _, rfl, _, rfl, d, _, _, _, rfl, rfl, SqL.of k1', atI_nat (j := 0) rfl, _, rfl, _, rfl, p, _, rfl, SqL.of k2', fun c hc => ?_⟩
      rw [cutV_from]
      refine ⟨b, l, c, us, _, _, _, _, rfl, same_new hc _ _ hl3, upd_same, Paired.mapP hm (fun _ _ h => h.same (same_new hc)), (by rw [← hr1]; exact RowsAt.same (paired_drop k3' _) (same_new hc)), hrows, by omega, fun H5 s5 => ?_⟩
      exact ⟨_, rfl, iteF (hnx _ _ ⟨rfl, (same_new hc).trans s5⟩)⟩
    rintro σ4 H4 ⟨rfl, s4⟩
    have hl4 := s4 _ _ hl3
    refine seq_mid (fun σ' H' => σ' = [some (.ref r), some (sideV b), some (.str (S t)), some (.str (S u)), some (.int ((reading (Par b) t).rows.length : Nat)), some (.ref d), some (.ref l)] ∧ ∃ zs, H' = upd H4 l (.lst zs)) ?_ ?_
    rotate_left
    · intro nx hnx
      exact ⟨_, rfl, .inl ⟨rfl, _, SqL.of hl4⟩, l, us, _, rfl, rfl, hl4, by rw [ul]; show _ < 16777216; omega, hnx _ _ ⟨rfl, _, rfl⟩⟩
    rintro σ5 H5 ⟨rfl, zs, rfl⟩
    have nl : ∀ {a : Addr}, H1 a = none → ∀ {o}, H2 a = some o → a ≠ l := fun _ _ e z => by rw [z, hl0] at e; cases e
    have m1 : (upd H4 l (.lst zs)) d = some _ := (upd_ne (nl n1 k1)).trans (s4 _ _ k1')
    have m2 : (upd H4 l (.lst zs)) p = some _ := (upd_ne (nl n2 k2)).trans (s4 _ _ k2')
    have m4 : FltAt (upd H4 l (.lst zs)) y (reading (Par b) (t ++ u)).fault := (k4'.mono fun a ys e => s4 _ _ e).mono (put_tup hl4)
    have rd5 := (rd3.same s4).put_l (o := .lst zs) hl4 hlF
    have fin : Fr' F H (upd H4 l (.lst zs)) F3 := by
      have s12 := s1.trans s2
      refine ⟨fun a o e n => ?_, fun a ha => ?_, fun a n z => ?_⟩
      · have e2 := s12 _ _ e
        rw [upd_ne fun z => by rw [z, hl0] at e2; cases e2]
        exact s4 _ _ (f3.keep _ _ e2 n)
      · rcases f3.new a ha with h | h
        · exact .inl h
        · right
          cases hz : H a with
          | none => rfl
          | some o => rw [s12 _ _ hz] at h; cases h
      · cases hz : H a with
        | none => exact n hz
        | some o =>
          have e2 := s12 _ _ hz
          rw [upd_ne fun z => by rw [z, hl0] at e2; cases e2] at z
          have h3 := f3.has a (by rw [e2]; simp)
          cases hy : H3 a with
          | none => exact h3 hy
          | some o2 => rw [s4 _ _ hy] at z; cases z
    refine ⟨_, rfl, _, rfl, d, _, _, _, rfl, rfl, SqL.of m1, atI_nat (j := 1) rfl, _, rfl, d, _, _, _, rfl, rfl, SqL.of m1, atI_nat (j := 2) rfl, _, rfl, d, _, _, _, rfl, rfl, SqL.of m1, atI_nat (j := 0) rfl, p, _, rfl, .inl (SqL.of m2), ?_⟩
    rw [Paired.length k3, ← A2.stage, ← A2.done]
    exact ⟨b, false, r, F3, _, y, rfl, rd5, by rw [A2.fault]; exact m4, q _ F3 fin rd5⟩
end
end K6

set_option Elab.async false
set_option linter.all false
set_option maxRecDepth 100000
set_option maxHeartbeats 4000000
/-! KX1: an own exception without arguments; 'except C as n' ahead of other clauses, where it is the one that takes. -/
namespace L2
open PySem PySem.Spec PyProof.Rows
section
variable {X : Cx}
/-- X() for an own exception class -/
theorem pmk_own0 {C : Addr} {bmB : List Value} {B newId initId : String} {x : PySem.Str} {p pos : Pos} (F : ExcBaseFacts B newId initId bmB) (q : PySem.W.excIn X.K C bmB newId = true) (gC : X.mg x = some (.ref C)) (kC : PySem.W.keepIn X.K (.ref C) = true) (r : Raises X (.ref C)) (hg : Gl X x)
    (hdb : (x == ("__debug__" : PySem.Str)) = false := by decide) : PMk X (.Call (.Name x p) [] [] pos) (fun _ H Q => Q (.ref C) none H) := by
  intro pins s σ H Q I h
  refine wpAny_Call_Name_kw (ld_glob I hg gC ?_ hdb)
  refine PySem.W.callWith_K0 I.kIn kC ?_
  obtain ⟨bm, N, nm, qn, bs, hdct, sn, sub, ab, col, dd, k0, k1, k2, k3, k5, mN, hC, hN, hni, T⟩ := exc_obj I.kIn q
  exact wpAny_call_exc_subT F T hC hN hni (fun h' e hm => mk_of I hm r h (I.hok.gone hm.new)) (Nat.zero_le _)
/-- the clause 'except c as (slot i)' takes the exception of the body -/
def wFst (K : PySem.W.Frag) (c : Value) (i : Nat) (ts : Addr → Value → Option Addr → TS) (D : Ends) : WX := fun cls d σ H =>
  PySem.W.exmOne K cls c = some true ∧ ∀ a, H a = none → ts a cls d { nx := fun σ' H' => D.nx (σ'.set i none) H', rt := D.rt, bk := fun σ' H' => D.bk (σ'.set i none) H', ct := fun σ' H' => D.ct (σ'.set i none) H' } (σ.set i (some (.ref a))) H
variable {x n : PySem.Str} {c : Value} {i : Nat} {body suite : List Stmt} {b₀ : Stmt} {hds : List ExceptHandler} {np pos pos' : Pos} {tb : WX → TS} {ts : Addr → Value → Option Addr → TS}
theorem ps_try_first (hs : X.stack = X.env :: X.outer) (hf : X.env.frame = some X.env.locals) (hN : X.N.Nodup) (hi : X.N[i]? = some n) (hln : X.env.kindOf n = some .local) (hc : Names X x c)
    (hb : ∀ (W : WX) (pn : List (Addr × Obj)) (xe : Value → Shared → Prop), Takes (X.tr pn xe) W → PassesOwn (model X.prog X.w) X.A X.env xe → PSs (X.tr pn xe) body (tb W))
    (hsu : ∀ (a : Addr) (oe : Obj) (cls : Value) (d : Option Addr) (pn : List (Addr × Obj)), Zc cls d oe → (∃ vs, oe.data = .fields vs) → PSs (X.suite a ((a, oe) :: pn)) (b₀ :: suite) (ts a cls d)) :
    PS X (.Try body (.ExceptHandler (some (.Name x np)) (some n) (b₀ :: suite) pos' :: hds) [] [] pos) (fun D σ H => tb (wFst X.K c i ts D) D σ H) := by
  refine ⟨fun pins s σ H D I h => ?_⟩
  have ok := I.ok
  have hfr : X.A.frames = some (X.env :: X.outer) := by rw [ok.frames, hs]
  have hloc : Loc X.env.scope n := .inl hln
  refine wpAny_Try_except ?_
  refine wpAny_mono ((hb (wFst X.K c i ts D) (X.pn ++ pins) (fun e s₁ => wpAny (model X.prog X.w) X.A (noteFrame e X.env) (fun _ s₂ => wpAny (model X.prog X.w) X.A (setFlight e none) (fun _ s₃ =>
    wpAny (model X.prog X.w) X.A (handleBy e X.env (.ExceptHandler (some (.Name x np)) (some n) (b₀ :: suite) pos' :: hds)) (SP X pins D) X.xe s₃) X.xe s₂) X.xe s₁) (fun u s' xx => ?_) PassesOwn.looking).run [] s σ H D (I.toTry _) h) (fun f s1 hsp => ?_) (fun e s1 he => he)
  · obtain ⟨a, B, sI, pins', σ', H', cls, d, rfl, J', nb, up, sky, na, os, ag, hb1, hyes⟩ := xx
    have J : Inv X pins σ' H' sI := J'.ofTry ok
    have sky' : Sky B (X.env :: X.outer) a (Zc cls d) X.env.locals s'.heap := by rw [← hs]; exact sky
    show wpAny (model X.prog X.w) X.A (noteFrame (.ref a) X.env) _ _ _
    refine Sky.land Zc.steady hfr hf sky' fun h3 fl3 up3 => ?_
    have J3 : Inv X pins σ' H' { s' with heap := h3 } := J.landed nb fl3.1 (up.trans up3) os ag
    obtain ⟨oe3, vs3, he3, hz3, hd3⟩ := fl3.there
    have nfr : a ∉ frs (X.env :: X.outer) := fun hm => by
      obtain ⟨_, o', e', hnf⟩ := fl3.2.2.1.mem hm
      rw [he3] at e'; cases e'
      exact hnf _ hd3
    have nL : a ≠ X.env.locals := fun z => nfr (List.mem_filterMap.mpr ⟨X.env, List.mem_cons_self, by rw [hf, z]⟩)
    have nF : a ∉ X.fs := fun hm => by
      obtain ⟨e, he, q⟩ := List.mem_filterMap.mp hm
      exact nfr (List.mem_filterMap.mpr ⟨e, List.mem_cons_of_mem _ he, q⟩)
    have S3 := J3.suite he3 hd3 na nL nF
    refine wpAny_handleBy_cons (codeAny_handlers_test ?_) (by intro q; cases q)
    have LT : PySem.W.Looks (model X.prog X.w) h3 (typeOf (.ref a)) cls := fun A Q E s k q => wpAny_typeOf_ref (k _ _ he3) (by rw [hz3.1]; exact q)
    have LM := PySem.W.exm_one (M := model X.prog X.w) (J3.kIn) LT hb1
    have test : ∀ {Q : Value → Shared → Prop} {E : Value → Shared → Prop}, Q c { s' with heap := h3 } → wpAny (model X.prog X.w) (X.A.mark (some (.ref a))) (eval (.Name x np) X.env) Q E { s' with heap := h3 } := fun {Q E} q => by
      obtain ⟨hg, hdbg, hm | ⟨hm, hv, hnn⟩⟩ := hc
      · exact ld_glob (X := X.suite a ((a, oe3) :: (X.pn ++ pins))) S3 hg hm q hdbg
      · exact ld_blt (X := X.suite a ((a, oe3) :: (X.pn ++ pins))) S3 hg hm hv q hnn hdbg
    refine test (LM.here ?_)
    refine codeAny_handlers_suite_as ?_
    refine HandSPX.lands_againZ fl3 fun h4 fl4 up4 => ?_
    have J4 : Inv X pins σ' H' { s' with heap := h4 } := J.landed nb fl4.1 ((up.trans up3).trans up4) os ag
    obtain ⟨oe4, vs4, he4, hz4, hd4⟩ := fl4.there
    have S4 := J4.suite he4 hd4 na nL nF
    refine store_ok (X := X.suite a ((a, oe4) :: (X.pn ++ pins))) (v := .ref a) S4 hN hi hloc rfl (fun s5 S5 => ?_) (.inr hln)
    refine wpAny_mono ((hsu a oe4 cls d (X.pn ++ pins) hz4 ⟨_, hd4⟩).run [] s5 _ H' _ S5 (hyes a na)) (fun f s6 hsp => ?_) (fun _ _ z => False.elim z)
    have leave : ∀ {σ6 : St} {H6 : Hp} {Q : Shared → Prop}, Inv (X.suite a ((a, oe4) :: (X.pn ++ pins))) [] σ6 H6 s6 → (∀ s7, Inv X pins (σ6.set i none) H6 s7 → Q s7) →
        wpAny (model X.prog X.w) X.A (do bindName X.env n .none; unbindBehindTheSuite X.env n pos') (fun _ s7 => Q s7) X.xe s6 := fun {σ6 H6 Q} S6 hq => gone_ok (S6.unsuite ok) hN hi hln hq
    cases f with
    | next =>
      obtain ⟨σ6, H6, S6, q6⟩ := hsp
      exact leave S6 fun s7 J7 => ⟨_, _, J7, q6⟩
    | brk =>
      obtain ⟨σ6, H6, S6, q6⟩ := hsp
      exact leave S6 fun s7 J7 => ⟨_, _, J7, q6⟩
    | cont =>
      obtain ⟨σ6, H6, S6, q6⟩ := hsp
      exact leave S6 fun s7 J7 => ⟨_, _, J7, q6⟩
    | ret u =>
      obtain ⟨v6, σ6, H6, S6, r6, q6⟩ := hsp
      exact leave S6 fun s7 J7 => ⟨_, _, _, J7, r6, q6⟩
  · cases f with
    | next =>
      obtain ⟨σ', H', J', q⟩ := hsp
      exact wpAny_execs_nil ⟨σ', H', J'.ofTry ok, q⟩
    | brk =>
      obtain ⟨σ', H', J', q⟩ := hsp
      exact ⟨σ', H', J'.ofTry ok, q⟩
    | cont =>
      obtain ⟨σ', H', J', q⟩ := hsp
      exact ⟨σ', H', J'.ofTry ok, q⟩
    | ret u =>
      obtain ⟨v, σ', H', J', r, q⟩ := hsp
      exact ⟨v, σ', H', J'.ofTry ok, r, q⟩
end
end L2

set_option Elab.async false
set_option linter.all false
set_option maxRecDepth 100000
set_option maxHeartbeats 4000000
/-! KX2: methods that may raise: o.m(), o.m(k = e), C(k = e), C(e); calls of one keyword. -/
namespace L2
open PySem PySem.Spec PyProof.Rows
/-- one keyword behind n positional values, no default -/
theorem Fun.kbind {K : PySem.W.Frag} {x qual : PySem.Str} {st : Stmt} {f : Addr} {fd : FuncData} {ps ks : List PySem.Str} {n : Nat} (F : Fun K x qual st f fd)
    (h : ∀ (kV doc pm : Value) (an : Option Addr) (cdv ct : Value) (us ws : List Value), us.length = n → ws.length = ks.length → bindArgs (PySem.W.fnOf x qual (defArgs st) (defBody st) (defScope st) .none kV doc pm an cdv ct) ⟨us, ks.zip ws⟩ = pure (ps.zip (us ++ ws))) :
    KBn K fd ps n ks (fun us ws => us ++ ws) (fun vs zs => vs ++ zs) := by
  obtain ⟨oc, od, kV, doc, pm, an, cdv, ct, osl, rfl, lk, hcd⟩ := F.ex
  exact ⟨fun s us ws _ l1 l2 => .of_eq (h kV doc pm an cdv ct us ws l1 l2), fun r1 r2 => r1.append r2⟩
section
variable {X : Cx} {CX : CXT} {k n : Nat} {f C : Addr} {fd : FuncData} {ps ks : List PySem.Str} {sp : Sp} {E : L2.St → XK} {m : PySem.Str} {pos apos : Pos} {o e : Expr} {es : List Expr} {ta : TE} {t : TA} {kws : List Keyword} {tk : TA} {g : List Value → List Value → List Value} {gV : List V → List V → List V}
theorem run_fnNS {pins : List (Addr × Obj)} {σ : L2.St} {H : Hp} {s : Shared} {Q : VK} {us ws : List Value} {vs zs : List V} (F : FnOk X.prog X.w X.K X.mg X.base CX k f fd ps sp) (hr : Room k X.A) (hb : KBn X.K fd ps n ks g gV) (hx : PassesAt CX X σ (E σ))
    (I : Inv X pins σ H s) (r : Vals vs us) (rz : Vals zs ws) (l1 : vs.length = n) (l2 : zs.length = ks.length) (h : sp (gV vs zs) H Q (E σ)) : wpAny (model X.prog X.w) X.A (call (.ref f) us (ks.zip ws)) (EP X pins σ Q) X.xe s := by
  have r2 := hb.rel r rz
  refine wpAny_call (codeAny_mono (F.run X.A X.stack s H ⟨us, ks.zip ws⟩ (g us ws) (gV vs zs) Q (E σ) hr I.env0 (hb.to s us ws I.kIn (r.length.symm.trans l1) (rz.length.symm.trans l2)) r2 h) fun r s' hq => ?_)
  cases r with
  | error e => exact hx pins H s e s' I hq
  | ok fl =>
    cases fl with
    | ret u => exact I.after hq
    | next => exact False.elim hq
    | brk => exact False.elim hq
    | cont => exact False.elim hq
def tMethX (C : Addr) (m : PySem.Str) (sp : Sp) (E : L2.St → XK) (ta : TE) (tk : TA) : TE := fun σ H Q => ta σ H fun x H1 => ∃ a dx fs, x = .ref a ∧ H1 a = some (.ins C dx fs) ∧ fs.lookup m = none ∧ tk σ H1 fun zs H2 => sp (.ref a :: zs) H2 Q (E σ)
/-- o.m(k = e) -/
theorem pe_methK0 {pl : Sem Bool} (he : PE X o ta) (c : Cls X.K C) (hm : Meth X.K C m f) (F : FnOk X.prog X.w X.K X.mg X.base CX k f fd ps sp) (hr : Room k X.A) (hb : KBn X.K fd ps 1 ks (fun us ws => us ++ ws) (fun vs zs => vs ++ zs)) (hx : ∀ σ, PassesAt CX X σ (E σ)) (hkw : PK X kws tk)
    (hlen : ∀ σ H Q, tk σ H Q → tk σ H fun zs H' => zs.length = ks.length ∧ Q zs H')
    (hall : (backToKw pos (keywordEach kws X.env)).all (·.1.isSome) = true := by rfl) (hks : (backToKw pos (keywordEach kws X.env)).filterMap (·.1) = ks := by rfl)
    (hpl : ((backTo pos (starEach [] X.env)).any (·.1) || (backToKw pos (keywordEach kws X.env)).any (·.1.isNone)) = false := by rfl)
    (ht : eval (.Call (.Attribute o m apos) [] kws pos) X.env = (do
      let ov ← eval o X.env
      standAt apos.atName
      let (f, first) ← holding [ov] (getMethod ov m pl)
      callWith pos f first (backTo pos (starEach [] X.env)) (backToKw pos (keywordEach kws X.env))) := by rfl) :
    PE X (.Call (.Attribute o m apos) [] kws pos) (tMethX C m sp E ta tk) := by
  refine ⟨fun pins s σ H Q I h => ?_⟩
  refine PySem.W.methodCall_KW (pl := pl) (thn (he.run pins s σ H _ I h) fun u s1 ⟨x, H1, I1, rx, a, dx, fs, ex, ea, l, q⟩ => ?_) ht
  subst ex
  obtain rfl : u = Value.ref a := rx
  refine getmeth_ok I1 ea c hm l ?_
  refine PySem.W.callWith_KW0 (first := [.ref a]) (h₀ := X.base) I.ok.mod.kin hm.kp hall ?_ hpl
  refine thn (hkw.run pos pins s1 σ H1 _ I1 (hlen σ H1 _ q)) fun ws s2 ⟨zs, H2, I2, rz, l2, q2⟩ => ⟨I2.kIn, ?_⟩
  rw [hks]
  exact run_fnNS (us := [.ref a]) (vs := [.ref a]) F hr hb (hx σ) I2 (.cons rfl .nil) rz rfl l2 q2
/-- o.m() -/
theorem pe_methX0 {pl : Sem Bool} (he : PE X o ta) (c : Cls X.K C) (hm : Meth X.K C m f) (F : FnOk X.prog X.w X.K X.mg X.base CX k f fd ps sp) (hr : Room k X.A) (hb : Binds X.K fd ps []) (hx : ∀ σ, PassesAt CX X σ (E σ))
    (ht : eval (.Call (.Attribute o m apos) [] [] pos) X.env = (do
      let ov ← eval o X.env
      standAt apos.atName
      let (f, first) ← holding [ov] (getMethod ov m pl)
      callWith pos f first (backTo pos (starEach [] X.env)) (backToKw pos (keywordEach [] X.env))) := by rfl) :
    PE X (.Call (.Attribute o m apos) [] [] pos) (tMethX C m sp E ta tNil) := by
  refine ⟨fun pins s σ H Q I h => ?_⟩
  refine PySem.W.methodCall_KW (pl := pl) (thn (he.run pins s σ H _ I h) fun u s1 ⟨x, H1, I1, rx, a, dx, fs, ex, ea, l, q⟩ => ?_) ht
  subst ex
  obtain rfl : u = Value.ref a := rx
  refine getmeth_ok I1 ea c hm l ?_
  refine PySem.W.callWith_K0 (first := [.ref a]) I1.kIn hm.kp ?_
  exact run_fnS (us := [.ref a]) (vs := [.ref a]) F hr hb (hx σ) I1 (.cons rfl .nil) q
end
end L2

set_option Elab.async false
set_option linter.all false
set_option maxRecDepth 100000
set_option maxHeartbeats 4000000
/-! KL6: a closed reader refuses. -/
namespace K6
open PySem PySem.Spec PyProof.Rows L2
abbrev bmV : List Value := [.type "ValueError", .type "Exception", .type "BaseException", .type "object"]
/-- the classes of exceptions -/
structure Ax where
  hop : Addr
  iv : Addr
  im : Addr
  fr : Addr
  rc : Addr
/-- what is asked of each class of exceptions -/
structure ExF (K : PySem.W.Frag) (mg : PySem.Str → Option Value) (x : PySem.Str) (C : Addr) : Prop where
  g : mg x = some (.ref C)
  k : PySem.W.keepIn K (.ref C) = true
  b : PySem.W.subIn K (.ref C) (.type "BaseException") = some true
  t : PySem.W.typeIn K (.ref C) = some (.type "type")
  te : PySem.W.exmOne K (.ref C) (.ref C) = some true
  ec : ExcC K C
structure Exf (K : PySem.W.Frag) (mg : PySem.Str → Option Value) (A : Ax) : Prop where
  rc : ExF K mg "ReaderClosed" A.rc
  rcX : PySem.W.excIn K A.rc bmV "ValueError.__new__" = true
  iv : ExF K mg "InvalidValue" A.iv
  im : mg "InvalidMessage" = some (.ref A.im)
  fr : mg "InvalidFraming" = some (.ref A.fr)
  VE : mg "ValueError" = none
  rcV : PySem.W.kitOne K (.ref A.rc) (.type "ValueError") = some true
  rcO : PySem.W.kitAny K (.ref A.rc) [.ref A.im, .ref A.fr, .ref A.iv] = some false
  ivO : PySem.W.kitAny K (.ref A.iv) [.ref A.im, .ref A.fr, .ref A.rc] = some false
/-- isinstance(e, (c1, ..)), e the exception that the suite holds -/
def rIsET (K : PySem.W.Frag) (D a : Addr) : List V → Hp → VK → Prop := fun xs H Q => ∃ (tp : Addr) (cs : List V) (us : List Value) (b : Bool), xs = [.ref a, .ref tp] ∧ H tp = some (.tup cs) ∧ Paired ClsV cs us ∧ PySem.W.kitAny K (.ref D) us = some b ∧ Q (.bl b) H
theorem call_isET {X : Cx} {a D : Addr} {oe : Obj} {pn : List (Addr × Obj)} (C : ExcC X.K D) (hz : Zc (.ref D) none oe) (hf : ∃ vs, oe.data = .fields vs) : CallR (X.suite a ((a, oe) :: pn)) (.builtin "isinstance") (rIsET X.K D a) := by
  intro pins s σ H xs us Q I r h
  obtain ⟨tp, cs, ws, b, rfl, hT, k, e, q⟩ := h
  obtain ⟨u1, u2, rfl, r1, r2⟩ := vals2 r
  cases (show u1 = Value.ref a from r1)
  cases (show u2 = Value.ref tp from r2)
  obtain ⟨hget, _⟩ := I.pin (a, oe) (List.mem_append.mpr (.inl List.mem_cons_self))
  obtain ⟨vs, hv⟩ := hf
  have J : PySem.W.InstAt s.heap a oe D none := by
    obtain ⟨oc, od, oda, osl⟩ := oe
    obtain ⟨h1, h2⟩ := hz
    dsimp only at h1 h2 hv
    subst h1 h2 hv
    exact ⟨hget, rfl, rfl, trivial⟩
  obtain ⟨_, its, rv, o, h1, h2, n, h3⟩ := (show ObjOk X.prog X.w H s.heap tp (.tup cs) from I.hok tp _ hT)
  have e3 := ClsV.all k rv
  subst e3
  obtain ⟨oc, od, dt, sl⟩ := o
  simp only at h2 h3
  subst h2 h3
  exact PySem.W.kia_tup (PySem.W.handS_kitx_exc C.hg C.hk C.hs C.hd C.ha C.hn C.ht C.hm) I.kIn J h1 e (fun z => nomatch z) fun tk => ⟨.bl b, H, I.tok tk, rfl, q⟩
/-- a suite that is read for one class alone -/
theorem pss_when {X : Cx} {p : Prop} {b : List Stmt} {t : TS} (h : p → PSs X b t) : PSs X b (fun D σ H => p ∧ t D σ H) := ⟨fun pins s σ H D I q => (h q.1).run pins s σ H D I q.2⟩
section
variable {D : Ad} {b : Bool} {A : Ax}
variable {P : Program} {w : World} {K : PySem.W.Frag} {mg : PySem.Str → Option Value} {base : Heap}
/-- feed(piece) of a reader that has ended -/
def sp_feedX (D : Ad) (rc : Addr) : Sp := fun vs H Q E => ∃ (r dx : Addr) (sd sg fx dv x : V) (dn rd : Int) (ln : Tx), vs = [.ref r, x] ∧ H r = some (.ins D.rdr dx (rdrF sd sg fx dn rd ln dv true)) ∧ E (.ref rc) none H
def sp_finX (D : Ad) (rc : Addr) : Sp := fun vs H Q E => ∃ (r dx : Addr) (sd sg fx dv : V) (dn rd : Int) (ln : Tx), vs = [.ref r] ∧ H r = some (.ins D.rdr dx (rdrF sd sg fx dn rd ln dv true)) ∧ E (.ref rc) none H
theorem ok_feedX (O : Obs P K mg D) (Y : Exf K mg A) : ∃ f fd, Meth K D.rdr "feed" f ∧ Fun K "feed" "Reader.feed" s_Reader_feed f fd ∧ FnOk P w K mg base (L2.CX P w) 1 f fd ["self", "piece"] (sp_feedX D A.rc) := by
  obtain ⟨f, fd, hm, F⟩ := O.Reader_feed
  refine ⟨f, fd, hm, F, F.okX sc_Reader_feed (fun vs H Q E h => ?_) (fun cdv A' outer s H vs Q E hr h => ?_)⟩
  · obtain ⟨r, dx, sd, sg, fx, dv, x, dn, rd, ln, rfl, _⟩ := h
    rfl
  · obtain ⟨r, dx, sd, sg, fx, dv, x, dn, rd, ln, rfl, h1, q⟩ := h
    refine ⟨_, pss_cons (ps_if (pt_val (pe_fld (pv 0) rfl)) (pss_one (ps_raise rfl (takes_of rfl rfl rfl rfl) (pmk_own0 PySem.F.excBase_ValueError Y.rcX Y.rc.g Y.rc.k (raises_own Y.rc.b Y.rc.t) (by exact rfl)))) pss_nil) pss_never, ?_⟩
    exact ⟨_, rfl, r, D.rdr, dx, _, _, rfl, h1, O.rdC, rdA O (by simp), rdr_stream_ended, _, rfl, iteT q⟩
theorem ok_finX (O : Obs P K mg D) (Y : Exf K mg A) : ∃ f fd, Meth K D.rdr "finish" f ∧ Fun K "finish" "Reader.finish" s_Reader_finish f fd ∧ FnOk P w K mg base (L2.CX P w) 1 f fd ["self"] (sp_finX D A.rc) := by
  obtain ⟨f, fd, hm, F⟩ := O.Reader_finish
  refine ⟨f, fd, hm, F, F.okX sc_Reader_finish (fun vs H Q E h => ?_) (fun cdv A' outer s H vs Q E hr h => ?_)⟩
  · obtain ⟨r, dx, sd, sg, fx, dv, dn, rd, ln, rfl, _⟩ := h
    rfl
  · obtain ⟨r, dx, sd, sg, fx, dv, dn, rd, ln, rfl, h1, q⟩ := h
    refine ⟨_, pss_cons (ps_if (pt_val (pe_fld (pv 0) rfl)) (pss_one (ps_raise rfl (takes_of rfl rfl rfl rfl) (pmk_own0 PySem.F.excBase_ValueError Y.rcX Y.rc.g Y.rc.k (raises_own Y.rc.b Y.rc.t) (by exact rfl)))) pss_nil) pss_never, ?_⟩
    exact ⟨_, rfl, r, D.rdr, dx, _, _, rfl, h1, O.rdC, rdA O (by simp), rdr_stream_ended, _, rfl, iteT q⟩
def sp_refF (D : Ad) : Sp := fun vs H Q _ => ∃ (r dx : Addr) (sd sg fx dv x : V) (dn rd : Int) (ln : Tx), vs = [.ref r, x] ∧ H r = some (.ins D.rdr dx (rdrF sd sg fx dn rd ln dv true)) ∧ ∀ H', Same H H' → Q (.bl true) H'
theorem ok__law_feed_refuses (T : Txt K mg) (O : Obs P K mg D) (Y : Exf K mg A) : Ok P w K mg base CX0 "_law_feed_refuses" 3 ["_law_reader", "_law_piece"] (sp_refF D) := by
  obtain ⟨fX, fdX, hmX, FX, GX⟩ := ok_feedX (w := w) (base := base) O Y
  have kb : KBn K fdX ["self", "piece"] 1 ["piece"] (fun us ws => us ++ ws) (fun vs zs => vs ++ zs) := FX.kbind fun _ _ _ _ _ _ us ws l1 l2 => match us, l1, ws, l2 with | [_], _, [_], _ => rfl
  obtain ⟨f, fd, hm, F⟩ := T._law_feed_refuses
  refine ⟨f, fd, hm, F.kp, F.binds fun _ _ _ _ _ _ us hl => match us, hl with | [_, _], _ => rfl, F.ok sc__law_feed_refuses (fun vs H Q E h => ?_) (fun cdv A' outer s H vs Q E hr h => ?_)⟩
  · obtain ⟨r, dx, sd, sg, fx, dv, x, dn, rd, ln, rfl, _⟩ := h
    rfl
  · obtain ⟨r, dx, sd, sg, fx, dv, x, dn, rd, ln, rfl, h1, q⟩ := h
    have hr1 : Room 1 _ := hr.mono (by decide)
    refine ⟨_, pss_cons (ps_try_first (i := 2) (tb := fun W => tDrop (tMethX D.rdr "feed" (sp_feedX D A.rc) (WE W) (tVar 0) (tCons (tVar 1) tNil)))
      (ts := fun a cls d => fun D' σ H => (cls = .ref A.rc ∧ d = none) ∧ tRet (tAndV (tCB (rIsE K A.rc a) (tCons (tVar 2) (tCons (tC (.ty "ValueError")) tNil))) (tNotV (tCB (rIsET K A.rc a) (tCons (tVar 2) (tCons (tTup (tCons (tC (.ref A.im)) (tCons (tC (.ref A.fr)) (tCons (tC (.ref A.iv)) tNil)))) tNil))))) D' σ H)
      rfl rfl sc__law_feed_refuses.nd rfl rfl ⟨rfl, by decide, Or.inl Y.rc.g⟩
      (fun W pn xe tk _ => pss_one (ps_expr (pe_methK0 (pv 0) O.rdC hmX GX hr1 kb (fun σ => passAt tk σ) (pk_cons (pv 1) pk_nil) (fun σ H Q ⟨v, e, q⟩ => ⟨v, e, rfl, q⟩))))
      (fun a oe cls d pn hz hf => pss_when fun he => by
        obtain ⟨rfl, rfl⟩ := he
        exact pss_one (ps_ret (pe_and (pe_callB (call_isE Y.rc.ec hz hf) rfl T.isinstance (by decide +kernel) (pa_cons (pv 2) (pa_cons (pe_bltn (v := .ty "ValueError") (by rfl) Y.VE (by decide +kernel) rfl) pa_nil)))
          (pe_one (pe_not (pe_callB (call_isET Y.rc.ec hz hf) rfl T.isinstance (by decide +kernel) (pa_cons (pv 2) (pa_cons (pe_tup (pa_cons (pe_glob (v := .ref A.im) rfl Y.im rfl) (pa_cons (pe_glob (v := .ref A.fr) rfl Y.fr rfl) (pa_cons (pe_glob (v := .ref A.iv) rfl Y.iv.g rfl) pa_nil)))) pa_nil))))))))) pss_never, ?_⟩
    refine ⟨_, rfl, r, dx, _, rfl, h1, rdr_no (by decide +kernel), _, rfl, r, dx, sd, sg, fx, dv, x, dn, rd, ln, rfl, h1, Y.rc.te, fun a ha => ⟨⟨rfl, rfl⟩, ?_⟩⟩
    refine ⟨_, rfl, .ty "ValueError", _, true, rfl, fun u h => h, Y.rcV, _, rfl, iteT ?_⟩
    refine ⟨_, rfl, by show 3 ≤ sizeLine; decide, fun tp htp => ?_⟩
    exact ⟨tp, _, _, false, rfl, upd_same, .cons (.own _) (.cons (.own _) (.cons (.own _) .nil)), Y.rcO, _, rfl, q _ (same_new htp)⟩
end
end K6

set_option Elab.async false
set_option linter.all false
set_option maxRecDepth 100000
set_option maxHeartbeats 4000000
/-! KL7: a closed reader refuses to finish; the end of a stream. -/
namespace K6
open PySem PySem.Spec PyProof.Rows L2
section
variable {D : Ad} {b : Bool} {A : Ax}
variable {P : Program} {w : World} {K : PySem.W.Frag} {mg : PySem.Str → Option Value} {base : Heap}
def sp_refN (D : Ad) : Sp := fun vs H Q _ => ∃ (r dx : Addr) (sd sg fx dv : V) (dn rd : Int) (ln : Tx), vs = [.ref r] ∧ H r = some (.ins D.rdr dx (rdrF sd sg fx dn rd ln dv true)) ∧ ∀ H', Same H H' → Q (.bl true) H'
theorem ok__law_finish_refuses (T : Txt K mg) (O : Obs P K mg D) (Y : Exf K mg A) : Ok P w K mg base CX0 "_law_finish_refuses" 3 ["_law_reader"] (sp_refN D) := by
  obtain ⟨fX, fdX, hmX, FX, GX⟩ := ok_finX (w := w) (base := base) O Y
  have kb : Binds K fdX ["self"] [] := FX.binds fun _ _ _ _ _ _ us hl => match us, hl with | [_], _ => rfl
  obtain ⟨f, fd, hm, F⟩ := T._law_finish_refuses
  refine ⟨f, fd, hm, F.kp, F.binds fun _ _ _ _ _ _ us hl => match us, hl with | [_], _ => rfl, F.ok sc__law_finish_refuses (fun vs H Q E h => ?_) (fun cdv A' outer s H vs Q E hr h => ?_)⟩
  · obtain ⟨r, dx, sd, sg, fx, dv, dn, rd, ln, rfl, _⟩ := h
    rfl
  · obtain ⟨r, dx, sd, sg, fx, dv, dn, rd, ln, rfl, h1, q⟩ := h
    have hr1 : Room 1 _ := hr.mono (by decide)
    refine ⟨_, pss_cons (ps_try_first (i := 1) (tb := fun W => tDrop (tMethX D.rdr "finish" (sp_finX D A.rc) (WE W) (tVar 0) tNil))
      (ts := fun a cls d => fun D' σ H => (cls = .ref A.rc ∧ d = none) ∧ tRet (tAndV (tCB (rIsE K A.rc a) (tCons (tVar 1) (tCons (tC (.ty "ValueError")) tNil))) (tNotV (tCB (rIsET K A.rc a) (tCons (tVar 1) (tCons (tTup (tCons (tC (.ref A.im)) (tCons (tC (.ref A.fr)) (tCons (tC (.ref A.iv)) tNil)))) tNil))))) D' σ H)
      rfl rfl sc__law_finish_refuses.nd rfl rfl ⟨rfl, by decide, Or.inl Y.rc.g⟩
      (fun W pn xe tk _ => pss_one (ps_expr (pe_methX0 (pv 0) O.rdC hmX GX hr1 kb (fun σ => passAt tk σ))))
      (fun a oe cls d pn hz hf => pss_when fun he => by
        obtain ⟨rfl, rfl⟩ := he
        exact pss_one (ps_ret (pe_and (pe_callB (call_isE Y.rc.ec hz hf) rfl T.isinstance (by decide +kernel) (pa_cons (pv 1) (pa_cons (pe_bltn (v := .ty "ValueError") (by rfl) Y.VE (by decide +kernel) rfl) pa_nil)))
          (pe_one (pe_not (pe_callB (call_isET Y.rc.ec hz hf) rfl T.isinstance (by decide +kernel) (pa_cons (pv 1) (pa_cons (pe_tup (pa_cons (pe_glob (v := .ref A.im) rfl Y.im rfl) (pa_cons (pe_glob (v := .ref A.fr) rfl Y.fr rfl) (pa_cons (pe_glob (v := .ref A.iv) rfl Y.iv.g rfl) pa_nil)))) pa_nil))))))))) pss_never, ?_⟩
    refine ⟨_, rfl, r, dx, _, rfl, h1, rdr_no (by decide +kernel), r, dx, sd, sg, fx, dv, dn, rd, ln, rfl, h1, Y.rc.te, fun a ha => ⟨⟨rfl, rfl⟩, ?_⟩⟩
    refine ⟨_, rfl, .ty "ValueError", _, true, rfl, fun u h => h, Y.rcV, _, rfl, iteT ?_⟩
    refine ⟨_, rfl, by show 3 ≤ sizeLine; decide, fun tp htp => ?_⟩
    exact ⟨tp, _, _, false, rfl, upd_same, .cons (.own _) (.cons (.own _) (.cons (.own _) .nil)), Y.rcO, _, rfl, q _ (same_new htp)⟩
/-- a reader that has told all of t may end -/
def sp__law_finished (D : Ad) : Sp := fun vs H Q _ => ∃ (b : Bool) (r : Addr) (t : Tx) (F : List Addr), vs = [.ref r, sideV b, .str (S t)] ∧ t.length ≤ 4000000 ∧ RdAt D b false H r F (run (Par b) RS.init t).2 ∧
  ∀ H' F', Fr' F H H' F' → Q (.bl true) H'
theorem ok__law_finished (T : Txt K mg) (O : Obs P K mg D) (Y : Exf K mg A) : Ok P w K mg base CX0 "_law_finished" 12 ["_law_reader", "_law_side", "_law_text"] (sp__law_finished D) := by
  obtain ⟨f, fd, hm, F⟩ := T._law_finished
  refine ⟨f, fd, hm, F.kp, F.binds fun _ _ _ _ _ _ us hl => match us, hl with | [_, _, _], _ => rfl, F.ok sc__law_finished (fun vs H Q E h => ?_) (fun cdv A' outer s H vs Q E hr h => ?_)⟩
  · obtain ⟨b, r, t, F, rfl, _⟩ := h
    rfl
  · obtain ⟨b, r, t, F, rfl, hl, hrd, q⟩ := h
    have A1 := agrees (P := Par b) t
    have hok := (rowP_run (b := b) t (rdok_init b)).2
    have hrows := rowP_finish hok
    have hlen := run_len (P := Par b) t RS.init
    have hfl : (finish (run (Par b) RS.init t).2).1.length ≤ 1 := by
      unfold finish
      split
      · exact Nat.zero_le _
      · split
        · exact Nat.zero_le _
        · split
          · split
            · exact Nat.le_refl _
            · exact Nat.zero_le _
          · exact Nat.zero_le _
    generalize hS : (run (Par b) RS.init t).2 = S0 at *
    refine ⟨_, pss_cons (ps_set (i := 3) sc__law_finished.nd rfl (Or.inl rfl) (pe_callO (ok__law_ended T) hr rfl (pa_cons (pv 1) (pa_cons (pv 2) pa_nil)))) (pss_cons (ps_set (i := 4) sc__law_finished.nd rfl (Or.inl rfl) (pe_methO0 (ok_Reader_finish (b := b) T O) (pv 0) O.rdC hr)) (pss_cons (ps_if (pt_not (pt_val (pe_callO (ok__law_all_same T O) hr rfl (pa_cons (pv 4) (pa_cons (pv 1) (pa_cons (pe_ix ix_list (pv 3) pe_int (fun _ _ => rfl)) pa_nil)))))) (pss_one (ps_ret pe_bl)) pss_nil) (pss_cons (ps_expr (pe_bm PySem.F.plainAttrs_list PySem.F.slot_list_append PySem.F.type_list_append mt_append (pv 4) (pa_cons pe_str pa_nil))) (pss_cons (ps_set (i := 5) sc__law_finished.nd rfl (Or.inl rfl) (pe_op op_add (pe_callB call_len_seq rfl T.len (by decide +kernel) (pa_cons (pe_ix ix_list (pv 3) pe_int (fun _ _ => rfl)) pa_nil)) (pe_callB call_len_seq rfl T.len (by decide +kernel) (pa_cons (pe_ix ix_list (pv 3) pe_int (fun _ _ => rfl)) pa_nil)))) (pss_cons (ps_for PassesOwn.never rfl (pi_list (pe_lst (pa_cons pe_str (pa_cons pe_str (pa_cons pe_str pa_nil))))) (pg_name (i := 6) sc__law_finished.nd rfl (Or.inl rfl)) (pss_cons (ps_if (pt_not (pt_val (pe_callO (ok__law_stands T O) hr rfl (pa_cons (pv 0) (pa_cons (pe_ix ix_list (pv 3) pe_int (fun _ _ => rfl)) (pa_cons (pe_ix ix_list (pv 3) pe_int (fun _ _ => rfl)) (pa_cons (pv 5) pa_nil))))))) (pss_one (ps_ret pe_bl)) pss_nil) (pss_one (ps_if (PW.pt (pw_or (pt_not (pt_val (pe_callO (ok__law_feed_refuses T O Y) hr rfl (pa_cons (pv 0) (pa_cons (pv 6) pa_nil))))) (pw_or1 (pt_not (pt_val (pe_callO (ok__law_finish_refuses T O Y) hr rfl (pa_cons (pv 0) pa_nil))))))) (pss_one (ps_ret pe_bl)) pss_nil)))) (pss_one (ps_ret (pe_callO (ok__law_stands T O) hr rfl (pa_cons (pv 0) (pa_cons (pe_ix ix_list (pv 3) pe_int (fun _ _ => rfl)) (pa_cons (pe_ix ix_list (pv 3) pe_int (fun _ _ => rfl)) (pa_cons (pv 5) pa_nil)))))))))))), ?_⟩
    refine seq_mid (fun σ' H' => ∃ d, Same H H' ∧ EndAt (fun x => H x = none) H' d (ended (Par b) t) ∧ σ' = [some (.ref r), some (sideV b), some (.str (S t)), some (.ref d), none, none, none]) ?_ ?_
    rotate_left
    · intro nx hnx
      exact ⟨_, rfl, _, rfl, b, t, rfl, hl, fun H2 d s2 hR => hnx _ _ ⟨d, s2, hR, rfl⟩⟩
    rintro σ2 H2 ⟨d, s2, hR, rfl⟩
    have rd2 := hrd.same s2
    obtain ⟨p, p', xs, ys, y, k1, n1, n2, n3, k2, k3, k4, k5, k6⟩ := hR
    have hF1 := hrd.hasF
    obtain ⟨dx, fx, dv, g1, g2, g3⟩ := id rd2
    refine seq_mid (fun σ' H' => ∃ l F' us, Fr' F H2 H' F' ∧ RdAt D b true H' r F' (finish S0).2 ∧ H2 l = none ∧ l ∉ F' ∧ H' l = some (.lst us) ∧ MsgsAt D b (fun a => H2 a = none ∧ a ∉ F' ∧ a ≠ l) H' us (finish S0).1 ∧
      σ' = [some (.ref r), some (sideV b), some (.str (S t)), some (.ref d), some (.ref l), none, none]) ?_ ?_
    rotate_left
    · intro nx hnx
      refine ⟨_, rfl, r, dx, _, rfl, g1, rdr_no (by decide +kernel), r, F, _, rfl, rd2, hok, fun H3 F3 l us f3 rd3 hl0 hlF hl3 hm => ?_⟩
      exact hnx _ _ ⟨l, F3, us, f3, rd3, hl0, hlF, hl3, hm, rfl⟩
    rintro σ3 H3 ⟨l, F3, us, f3, rd3, hl0, hlF, hl3, hm, rfl⟩
    have kN := keepN f3 hF1
    have kT := keepT f3 rd2.notup
    have k1' := kN _ _ k1 n1
    have k2' := kN _ _ k2 n2
    have k4' := kN _ _ k4 n3
    have k5' := RowsAt.step k5 kN kT
    have k6' := k6.mono kT
    have ul : us.length = (finish S0).1.length := Paired.length hm
    refine seq_mid (fun σ' H' => σ' = [some (.ref r), some (sideV b), some (.str (S t)), some (.ref d), some (.ref l), none, none] ∧ Same H3 H') ?_ ?_
    rotate_left
    · intro nx hnx
      refine ⟨_, rfl, _, rfl, _, rfl, d, _, _, _, rfl, rfl, SqL.of k1', atI_nat (j := 1) rfl, b, l, p', us, ys, (finish S0).1, _, _, rfl, hl3, k4', hm, (by rw [A1.more]; exact k5'), hrows, by omega, fun H5 s5 => ?_⟩
      exact ⟨_, rfl, iteF (hnx _ _ ⟨rfl, s5⟩)⟩
    rintro σ4 H4 ⟨rfl, s4⟩
    have hl4 := s4 _ _ hl3
    refine seq_mid (fun σ' H' => σ' = [some (.ref r), some (sideV b), some (.str (S t)), some (.ref d), some (.ref l), none, none] ∧ ∃ zs, H' = upd H4 l (.lst zs)) ?_ ?_
    rotate_left
    · intro nx hnx
      exact ⟨_, rfl, .inl ⟨rfl, _, SqL.of hl4⟩, l, us, _, rfl, rfl, hl4, by rw [ul]; show _ < 16777216; omega, hnx _ _ ⟨rfl, _, rfl⟩⟩
    rintro σ5 H5 ⟨rfl, zs, rfl⟩
    have nl : ∀ {a : Addr} {o}, H2 a = some o → a ≠ l := fun e z => by rw [z, hl0] at e; cases e
    have m1 : (upd H4 l (.lst zs)) d = some _ := (upd_ne (nl k1)).trans (s4 _ _ k1')
    have m2 : (upd H4 l (.lst zs)) p = some _ := (upd_ne (nl k2)).trans (s4 _ _ k2')
    have m4 : (upd H4 l (.lst zs)) p' = some _ := (upd_ne (nl k4)).trans (s4 _ _ k4')
    have m6 : FltAt (upd H4 l (.lst zs)) y (ended (Par b) t).fault := (k6'.mono fun a ys e => s4 _ _ e).mono (put_tup hl4)
    have rd5 := (rd3.same s4).put_l (o := .lst zs) hl4 hlF
    have fin : Fr' F H (upd H4 l (.lst zs)) F3 := by
      refine ⟨fun a o e n => ?_, fun a ha => ?_, fun a n z => ?_⟩
      · have e2 := s2 _ _ e
        rw [upd_ne (nl e2)]
        exact s4 _ _ (f3.keep _ _ e2 n)
      · rcases f3.new a ha with h | h
        · exact .inl h
        · right
          cases hz : H a with
          | none => rfl
          | some o => rw [s2 _ _ hz] at h; cases h
      · cases hz : H a with
        | none => exact n hz
        | some o =>
          have e2 := s2 _ _ hz
          rw [upd_ne (nl e2)] at z
          have h3 := f3.has a (by rw [e2]; simp)
          cases hy : H3 a with
          | none => exact h3 hy
          | some o2 => rw [s4 _ _ hy] at z; cases z
    revert m1 m2 m4 m6 rd5 fin
    generalize upd H4 l (.lst zs) = H5
    intro m1 m2 m4 m6 rd5 fin
    refine seq_mid (fun σ' H' => σ' = [some (.ref r), some (sideV b), some (.str (S t)), some (.ref d), some (.ref l), some (.int ((finish S0).2.done : Nat)), none] ∧ H' = H5) ?_ ?_
    rotate_left
    · intro nx hnx
      refine ⟨_, rfl, d, _, _, _, rfl, rfl, SqL.of m1, atI_nat (j := 0) rfl, p, _, rfl, .inl (SqL.of m2), _, rfl, d, _, _, _, rfl, rfl, SqL.of m1, atI_nat (j := 1) rfl, p', _, rfl, .inl (SqL.of m4), _, _, rfl, rfl, ?_⟩
      dsimp only
      rw [Paired.length k3, Paired.length k5, show (((ended (Par b) t).rows.length : Nat) : Int) + (((ended (Par b) t).more.length : Nat) : Int) = (((finish S0).2.done : Nat) : Int) from by rw [A1.edone]; push_cast; rfl]
      exact hnx _ _ ⟨rfl, rfl⟩
    rintro σ6 H6 ⟨rfl, rfl⟩
    rw [← A1.estage] at m1
    rw [← A1.efault] at m6
    obtain ⟨dx5, fx5, dv5, j1, j2, j3⟩ := id rd5
    refine seq_mid (fun σ' H' => (∃ v, σ' = [some (.ref r), some (sideV b), some (.str (S t)), some (.ref d), some (.ref l), some (.int ((finish S0).2.done : Nat)), v]) ∧ Same H6 H') ?_ ?_
    rotate_left
    · intro nx hnx
      refine ⟨by show 3 ≤ sizeLine; decide, fun la hla => ⟨la, rfl, ⟨_, SqL.of upd_same⟩, ?_⟩⟩
      refine for_list (K := K) (a := la) (fun i σ H' => ∃ v : Option V, σ = [some (.ref r), some (sideV b), some (.str (S t)), some (.ref d), some (.ref l), some (.int ((finish S0).2.done : Nat)), v] ∧ Same (upd H6 la (.lst [str "ask get /\n\n", str "", str "answer same\n\n"])) H') ⟨_, rfl, same_refl⟩ (fun i σ H' _ ⟨_, _, s5⟩ => SqL.of (s5 _ _ upd_same)) ?_ ?_
      · rintro i x σ H' hi ⟨v, rfl, s5⟩
        have s6 : Same H6 H' := (same_new hla).trans s5
        refine ⟨_, rfl, _, rfl, d, _, _, _, rfl, rfl, SqL.of (s6 _ _ m1), atI_nat (j := 2) rfl, _, rfl, d, _, _, _, rfl, rfl, SqL.of (s6 _ _ m1), atI_nat (j := 3) rfl, _, rfl, b, true, r, F3, (finish S0).2, y, rfl, rd5.same s6, m6.mono (fun a ys e => s6 _ _ e), _, rfl, iteF ?_⟩
        refine ⟨_, rfl, _, rfl, r, dx5, _, _, _, _, _, _, _, _, rfl, s6 _ _ j1, fun H7 s7 => ⟨_, rfl, iteF ?_⟩⟩
        refine ⟨_, rfl, r, dx5, _, _, _, _, _, _, _, rfl, s7 _ _ (s6 _ _ j1), fun H8 s8 => ⟨_, rfl, iteF ?_⟩⟩
        exact ⟨_, rfl, (s5.trans s7).trans s8⟩
      · rintro σ H' ⟨v, rfl, s5⟩
        exact hnx _ _ ⟨⟨_, rfl⟩, (same_new hla).trans s5⟩
    rintro σ7 H7 ⟨⟨v, rfl⟩, s6⟩
    exact ⟨_, rfl, _, rfl, d, _, _, _, rfl, rfl, SqL.of (s6 _ _ m1), atI_nat (j := 2) rfl, _, rfl, d, _, _, _, rfl, rfl, SqL.of (s6 _ _ m1), atI_nat (j := 3) rfl, _, rfl, b, true, r, F3, (finish S0).2, y, rfl, rd5.same s6, m6.mono (fun a ys e => s6 _ _ e), q _ F3 (fin.same s6)⟩
end
end K6

set_option Elab.async false
set_option linter.all false
set_option maxRecDepth 100000
set_option maxHeartbeats 8000000
/-! KL8: the law. -/
namespace K6
open PySem PySem.Spec PyProof.Rows L2
section
variable {D : Ad} {b : Bool} {A : Ax}
variable {P : Program} {w : World} {K : PySem.W.Frag} {mg : PySem.Str → Option Value} {base : Heap}
def sp_side : Sp := fun vs H Q _ => ∃ x : PySem.Str, vs = [.str x] ∧ x ∉ ([PySem.Str.ofString "asks", PySem.Str.ofString "answers"] : List PySem.Str) ∧ ∀ H', Same H H' → Q (.bl true) H'
def sp_law (K : PySem.W.Frag) : Sp := fun vs H Q _ => ∃ (s : Addr) (ns : List Int), vs = [.ref s] ∧ SqL K H s (ns.map V.int) ∧ ns.length ≤ 1000 ∧ ∀ H', Q (.bl true) H'
/-- the footprint stands, the tuples and the blank message stand -/
theorem RdAt.keep {e : Bool} {H H' : Hp} {r : Addr} {F : List Addr} {s : RS} (h : RdAt D b e H r F s) (k : ∀ a ∈ F, ∀ o, H a = some o → H' a = some o) (kt : ∀ a ys, H a = some (.tup ys) → H' a = some (.tup ys))
    (kb : ∀ a dx fs, H a = some (.ins (D.cls b) dx fs) → H' a = some (.ins (D.cls b) dx fs)) : RdAt D b e H' r F s := by
  obtain ⟨dx, fx, dv, h1, h2, h3⟩ := h
  have hr := h3.mem
  refine ⟨dx, fx, dv, k _ hr _ h1, h2.mono kt, ?_⟩
  rcases h3 with h3 | ⟨d, q, la, ls, e1, e2, rfl, dxq, bx, dxb, Lb, xs, g1, g2, g3, g4, g5, g6⟩
  · exact .inl h3
  · exact .inr ⟨d, q, la, ls, e1, e2, rfl, dxq, bx, dxb, Lb, xs, k _ (by simp) _ g1, kb _ _ _ g2, k _ (by simp) _ g3, g4.mono kt, k _ (by simp) _ g5, g6⟩
theorem RdAt.notmsg {e : Bool} {H : Hp} {r : Addr} {F : List Addr} {s : RS} (h : RdAt D b e H r F s) (NE : ∀ c : Bool, D.cls c ≠ D.rdr ∧ D.cls c ≠ D.dft) : ∀ a ∈ F, ∀ c dx fs, H a ≠ some (.ins (D.cls c) dx fs) := by
  obtain ⟨dx, fx, dv, h1, h2, h3⟩ := h
  intro a ha c dx' fs z
  rcases h3 with ⟨_, _, rfl⟩ | ⟨d, q, la, ls, _, _, rfl, dxq, bx, dxb, Lb, xs, g1, g2, g3, g4, g5, g6⟩
  · rw [List.mem_singleton] at ha
    rw [ha, h1] at z
    injection z with z
    injection z with z
    exact (NE c).1 z.symm
  · simp only [List.mem_cons, List.not_mem_nil, or_false] at ha
    rcases ha with rfl | rfl | rfl | rfl
    · rw [h1] at z
      injection z with z
      injection z with z
      exact (NE c).1 z.symm
    · rw [g1] at z
      injection z with z
      injection z with z
      exact (NE c).2 z.symm
    · rw [g3] at z; cases z
    · rw [g5] at z; cases z
/-- a reader stands when another one steps -/
theorem RdAt.other {e e2 : Bool} {H H' : Hp} {r r2 : Addr} {F F' F2 : List Addr} {s s2 : RS} (h : RdAt D b e H r F s) (h2 : RdAt D b e2 H r2 F2 s2) (NE : ∀ c : Bool, D.cls c ≠ D.rdr ∧ D.cls c ≠ D.dft) (dj : ∀ a ∈ F, a ∉ F2) (f : Fr' F2 H H' F') : RdAt D b e H' r F s ∧ ∀ a ∈ F, a ∉ F' := by
  refine ⟨h.keep (fun a ha o ho => f.keep a o ho (dj a ha)) (keepT f h2.notup) (fun a dx fs ho => f.keep a _ ho fun z => h2.notmsg NE a z _ _ _ ho), fun a ha z => ?_⟩
  rcases f.new a z with g | g
  · exact dj a ha g
  · exact h.hasF a ha g
theorem RdAt.bg {e : Bool} {H H' : Hp} {r a : Addr} {F : List Addr} {s : RS} (h : RdAt D b e H r F s) (k : Bg a H H') (hb : BagAt H a) (na : a ∉ F) : RdAt D b e H' r F s := by
  refine h.keep (fun c hc o ho => k.1 c o ho fun z => na (z ▸ hc)) (k.tup hb) fun c dx fs ho => k.1 c _ ho fun z => ?_
  obtain ⟨_, _, _, h2, _⟩ := hb
  rw [z, h2] at ho
  cases ho
/-- the law's objects behind the start -/
structure LS (D : Ad) (b : Bool) (a lr lc c1 c2 lf p1 p2 : Addr) (ps1 ps2 : List Tx) (t1 t2 : Tx) (H : Hp) (F1 F2 : List Addr) : Prop where
  r1 : RdAt D b false H p1 F1 (run (Par b) RS.init t1).2
  r2 : RdAt D b false H p2 F2 (run (Par b) RS.init t2).2
  dj : ∀ x ∈ F1, x ∉ F2
  o1 : ∀ x ∈ [a, lr, lc, c1, c2, lf], x ∉ F1
  o2 : ∀ x ∈ [a, lr, lc, c1, c2, lf], x ∉ F2
  bag : BagAt H a
  hlr : H lr = some (.lst [.ref p1, .ref p2])
  hlc : H lc = some (.lst [.ref c1, .ref c2])
  hc1 : H c1 = some (.lst (ps1.map sV))
  hc2 : H c2 = some (.lst (ps2.map sV))
  hlf : H lf = some (.lst [sV t1, sV t2])
  df : ∀ x ∈ [a, lr, lc, c1, c2], x ≠ lf
theorem LS.fed1 {a lr lc c1 c2 lf p1 p2 : Addr} {ps1 ps2 : List Tx} {t1 t2 u : Tx} {H H' : Hp} {F1 F2 F' : List Addr} (h : LS D b a lr lc c1 c2 lf p1 p2 ps1 ps2 t1 t2 H F1 F2) (NE : ∀ c : Bool, D.cls c ≠ D.rdr ∧ D.cls c ≠ D.dft) (f : Fr' F1 H H' F')
    (rd : RdAt D b false H' p1 F' (run (Par b) RS.init (t1 ++ u)).2) : H' lf = some (.lst [sV t1, sV t2]) ∧ LS D b a lr lc c1 c2 lf p1 p2 ps1 ps2 (t1 ++ u) t2 (upd H' lf (.lst [sV (t1 ++ u), sV t2])) F' F2 := by
  obtain ⟨g2, dj2⟩ := h.r2.other h.r1 NE (fun x hx z => h.dj x z hx) f
  have K : ∀ x ∈ [a, lr, lc, c1, c2, lf], ∀ o, H x = some o → H' x = some o ∧ x ∉ F' := fun x hx o ho => ⟨f.keep x o ho (h.o1 x hx), fun z => by
    rcases f.new x z with g | g
    · exact h.o1 x hx g
    · rw [ho] at g; cases g⟩
  obtain ⟨bd, bk, by_, hb, hby⟩ := h.bag
  have ka := K a (by simp) _ hb
  have k1 := K lr (by simp) _ h.hlr
  have k2 := K lc (by simp) _ h.hlc
  have k3 := K c1 (by simp) _ h.hc1
  have k4 := K c2 (by simp) _ h.hc2
  have k5 := K lf (by simp) _ h.hlf
  refine ⟨k5.1, ⟨rd.put_l k5.1 k5.2, g2.put_l k5.1 (h.o2 lf (by simp)), fun x hx z => dj2 x z hx, fun x hx => ?_, h.o2, ?_, ?_, ?_, ?_, ?_, upd_same, h.df⟩⟩
  · simp only [List.mem_cons, List.not_mem_nil, or_false] at hx
    rcases hx with rfl | rfl | rfl | rfl | rfl | rfl
    · exact ka.2
    · exact k1.2
    · exact k2.2
    · exact k3.2
    · exact k4.2
    · exact k5.2
  · exact ⟨bd, bk, by_, (upd_ne (h.df a (by simp))).trans ka.1, hby⟩
  · exact (upd_ne (h.df lr (by simp))).trans k1.1
  · exact (upd_ne (h.df lc (by simp))).trans k2.1
  · exact (upd_ne (h.df c1 (by simp))).trans k3.1
  · exact (upd_ne (h.df c2 (by simp))).trans k4.1
theorem LS.fed2 {a lr lc c1 c2 lf p1 p2 : Addr} {ps1 ps2 : List Tx} {t1 t2 u : Tx} {H H' : Hp} {F1 F2 F' : List Addr} (h : LS D b a lr lc c1 c2 lf p1 p2 ps1 ps2 t1 t2 H F1 F2) (NE : ∀ c : Bool, D.cls c ≠ D.rdr ∧ D.cls c ≠ D.dft) (f : Fr' F2 H H' F')
    (rd : RdAt D b false H' p2 F' (run (Par b) RS.init (t2 ++ u)).2) : H' lf = some (.lst [sV t1, sV t2]) ∧ LS D b a lr lc c1 c2 lf p1 p2 ps1 ps2 t1 (t2 ++ u) (upd H' lf (.lst [sV t1, sV (t2 ++ u)])) F1 F' := by
  obtain ⟨g2, dj2⟩ := h.r1.other h.r2 NE h.dj f
  have K : ∀ x ∈ [a, lr, lc, c1, c2, lf], ∀ o, H x = some o → H' x = some o ∧ x ∉ F' := fun x hx o ho => ⟨f.keep x o ho (h.o2 x hx), fun z => by
    rcases f.new x z with g | g
    · exact h.o2 x hx g
    · rw [ho] at g; cases g⟩
  obtain ⟨bd, bk, by_, hb, hby⟩ := h.bag
  have ka := K a (by simp) _ hb
  have k1 := K lr (by simp) _ h.hlr
  have k2 := K lc (by simp) _ h.hlc
  have k3 := K c1 (by simp) _ h.hc1
  have k4 := K c2 (by simp) _ h.hc2
  have k5 := K lf (by simp) _ h.hlf
  refine ⟨k5.1, ⟨g2.put_l k5.1 (h.o1 lf (by simp)), rd.put_l k5.1 k5.2, dj2, h.o1, fun x hx => ?_, ?_, ?_, ?_, ?_, ?_, upd_same, h.df⟩⟩
  · simp only [List.mem_cons, List.not_mem_nil, or_false] at hx
    rcases hx with rfl | rfl | rfl | rfl | rfl | rfl
    · exact ka.2
    · exact k1.2
    · exact k2.2
    · exact k3.2
    · exact k4.2
    · exact k5.2
  · exact ⟨bd, bk, by_, (upd_ne (h.df a (by simp))).trans ka.1, hby⟩
  · exact (upd_ne (h.df lr (by simp))).trans k1.1
  · exact (upd_ne (h.df lc (by simp))).trans k2.1
  · exact (upd_ne (h.df c1 (by simp))).trans k3.1
  · exact (upd_ne (h.df c2 (by simp))).trans k4.1
theorem ok_law {f : Addr} {fd : FuncData} (F : Fun K "law" "law" s_law f fd) (T : Txt K mg) (O : Obs P K mg D) (Y : Exf K mg A) (NE : ∀ c : Bool, D.cls c ≠ D.rdr ∧ D.cls c ≠ D.dft) (SR : Ok P w K mg base CX0 "_law_side_refused" 6 ["_law_side"] sp_side) : FnOk P w K mg base CX0 16 f fd ["_law_script"] (sp_law K) := by
  obtain ⟨fR, fdR, mkR, FR, bR, okR⟩ := ok_rdinit (w := w) (base := base) T O
  have kbR : KBn K fdR ["self", "side"] 1 ["side"] (fun us ws => us ++ ws) (fun vs zs => vs ++ zs) := FR.kbind fun _ _ _ _ _ _ us ws l1 l2 => match us, l1, ws, l2 with | [_], _, [_], _ => rfl
  refine F.ok sc_law (fun vs H Q E h => ?_) (fun cdv A' outer s H vs Q E hr h => ?_)
  · obtain ⟨s, ns, rfl, _⟩ := h
    rfl
  · obtain ⟨sc, ns, rfl, hS, hns, q⟩ := h
    refine ⟨_, pss_cons (ps_set (i := 1) sc_law.nd rfl (Or.inl rfl) (pe_callO (ok__law_bag T) hr rfl (pa_cons (pv 0) (pa_cons pe_int pa_nil)))) (pss_cons (ps_set (i := 2) sc_law.nd rfl (Or.inl rfl) (pe_callO (ok__law_pick T) hr rfl (pa_cons (pv 1) (pa_cons (pe_lst (pa_cons pe_str (pa_cons pe_str pa_nil))) pa_nil)))) (pss_cons (ps_set (i := 3) sc_law.nd rfl (Or.inl rfl) (pe_ix ix_list (pe_callO (ok__law_stream T) hr rfl (pa_cons (pv 0) (pa_cons (pv 1) (pa_cons (pv 2) pa_nil)))) pe_int (fun _ _ => rfl))) (pss_cons (ps_for PassesOwn.never rfl (pi_range1 rfl T.range (pa_cons (pe_callO (ok__law_pick T) hr rfl (pa_cons (pv 1) (pa_cons (pe_lst (pa_cons pe_int (pa_cons pe_int (pa_cons pe_int pa_nil)))) pa_nil))) pa_nil)) (pg_name (i := 4) sc_law.nd rfl (Or.inl rfl)) (pss_one (ps_set (i := 3) sc_law.nd rfl (Or.inl rfl) (pe_callO (ok__law_spoilt T) hr rfl (pa_cons (pv 1) (pa_cons (pv 3) pa_nil)))))) (pss_cons (ps_set (i := 5) sc_law.nd rfl (Or.inl rfl) (pe_lst (pa_cons (pe_make mkR okR (hr.mono (by decide)) rfl O.rd bR .nil pass0 (pa_cons (pv 2) pa_nil)) (pa_cons (pe_makeK0 mkR okR (hr.mono (by decide)) rfl O.rd kbR pass0 (pk_cons (pv 2) pk_nil)) pa_nil)))) (pss_cons (ps_set (i := 6) sc_law.nd rfl (Or.inl rfl) (pe_lst (pa_cons (pe_callO (ok__law_pieces T) hr rfl (pa_cons (pv 1) (pa_cons (pv 3) pa_nil))) (pa_cons (pe_callO (ok__law_pieces T) hr rfl (pa_cons (pv 1) (pa_cons (pv 3) pa_nil))) pa_nil)))) (pss_cons (ps_set (i := 7) sc_law.nd rfl (Or.inl rfl) (pe_lst (pa_cons pe_str (pa_cons pe_str pa_nil)))) (pss_cons (ps_if (PW.pt (pw_or (pt_not (pt_val (pe_callO (ok__law_stands T O) hr rfl (pa_cons (pe_ix ix_list (pv 5) pe_int (fun _ _ => rfl)) (pa_cons pe_str (pa_cons pe_non (pa_cons pe_int pa_nil))))))) (pw_or1 (pt_not (pt_val (pe_callO (ok__law_stands T O) hr rfl (pa_cons (pe_ix ix_list (pv 5) pe_int (fun _ _ => rfl)) (pa_cons pe_str (pa_cons pe_non (pa_cons pe_int pa_nil)))))))))) (pss_one (ps_ret pe_bl)) pss_nil) (pss_cons (ps_for PassesOwn.never rfl (pi_range1 rfl T.range (pa_cons (pe_callB (call_max2 rfl) rfl T.max (by decide +kernel) (pa_cons (pe_callB call_len_seq rfl T.len (by decide +kernel) (pa_cons (pe_ix ix_list (pv 6) pe_int (fun _ _ => rfl)) pa_nil)) (pa_cons (pe_callB call_len_seq rfl T.len (by decide +kernel) (pa_cons (pe_ix ix_list (pv 6) pe_int (fun _ _ => rfl)) pa_nil)) pa_nil))) pa_nil)) (pg_name (i := 4) sc_law.nd rfl (Or.inl rfl)) (pss_one (ps_for PassesOwn.never rfl (pi_range1 rfl T.range (pa_cons pe_int pa_nil)) (pg_name (i := 8) sc_law.nd rfl (Or.inl rfl)) (pss_one (ps_if (pt_cmpR op_lt (pv 4) (pe_callB call_len_seq rfl T.len (by decide +kernel) (pa_cons (pe_ix ix_list (pv 6) (pv 8) (fun _ _ => rfl)) pa_nil)) (nomark _)) (pss_cons (ps_if (pt_not (pt_val (pe_callO (ok__law_fed T O) hr rfl (pa_cons (pe_ix ix_list (pv 5) (pv 8) (fun _ _ => rfl)) (pa_cons (pv 2) (pa_cons (pe_ix ix_list (pv 7) (pv 8) (fun _ _ => rfl)) (pa_cons (pe_ix ix_list (pe_ix ix_list (pv 6) (pv 8) (fun _ _ => rfl)) (pv 4) (fun _ _ => rfl)) pa_nil))))))) (pss_one (ps_ret pe_bl)) pss_nil) (pss_one (ps_asg (pe_op op_add_str (pe_ix ix_list (pv 7) (pv 8) (fun _ _ => rfl)) (pe_ix ix_list (pe_ix ix_list (pv 6) (pv 8) (fun _ _ => rfl)) (pv 4) (fun _ _ => rfl))) (pg_sub (pv 7) (pv 8) set_list)))) pss_nil))))) (pss_cons (ps_if (PW.pt (pw_or (pt_not (pt_val (pe_callO (ok__law_finished T O Y) hr rfl (pa_cons (pe_ix ix_list (pv 5) pe_int (fun _ _ => rfl)) (pa_cons (pv 2) (pa_cons (pv 3) pa_nil)))))) (pw_or1 (pt_not (pt_val (pe_callO (ok__law_finished T O Y) hr rfl (pa_cons (pe_ix ix_list (pv 5) pe_int (fun _ _ => rfl)) (pa_cons (pv 2) (pa_cons (pv 3) pa_nil))))))))) (pss_one (ps_ret pe_bl)) pss_nil) (pss_one (ps_ret (pe_callO SR hr rfl (pa_cons (pe_callO (ok__law_pick T) hr rfl (pa_cons (pv 1) (pa_cons (pe_lst (pa_cons pe_str (pa_cons pe_str (pa_cons pe_str (pa_cons pe_str (pa_cons pe_str pa_nil)))))) pa_nil))) pa_nil))))))))))))), ?_⟩
    refine seq_mid (fun σ' H' => ∃ a, Same H H' ∧ H a = none ∧ BagAt H' a ∧ σ' = [some (.ref sc), some (.ref a), none, none, none, none, none, none, none]) ?_ (fun nx hnx => ⟨_, rfl, sc, ns, 0, rfl, hS, by decide, by decide, fun H1 a s1 na hb => hnx _ _ ⟨a, s1, na, hb, rfl⟩⟩)
    rintro σ1 H1 ⟨a, s1, na, hb1, rfl⟩
    refine seq_mid (fun σ' H' => ∃ b : Bool, Same H H' ∧ BagAt H' a ∧ σ' = [some (.ref sc), some (.ref a), some (sideV b), none, none, none, none, none, none]) ?_ ?_
    rotate_left
    · intro nx hnx
      refine ⟨_, rfl, by show 2 ≤ sizeLine; decide, fun l hl => .inl ⟨a, l, _, rfl, hb1.same (same_new hl), upd_same, hb1.ne hl, by decide, by decide, fun H2 x bg hx => ?_⟩⟩
      have bg' : Bg a H1 H2 := (Bg.of_same hb1 (same_new hl)).trans bg
      obtain ⟨b, rfl⟩ : ∃ b : Bool, x = sideV b := by
        simp only [List.mem_cons, List.not_mem_nil, or_false] at hx
        rcases hx with rfl | rfl
        · exact ⟨false, rfl⟩
        · exact ⟨true, rfl⟩
      exact hnx _ _ ⟨b, bg'.keeps s1 na, bg'.bag, rfl⟩
    rintro σ2 H2 ⟨b, s2, hb2, rfl⟩
    refine seq_mid (fun σ' H' => ∃ z : Tx, Same H H' ∧ BagAt H' a ∧ z.length ≤ 400000 ∧ σ' = [some (.ref sc), some (.ref a), some (sideV b), some (.str (S z)), none, none, none, none, none]) ?_ ?_
    rotate_left
    · intro nx hnx
      refine ⟨_, rfl, _, rfl, _, rfl, H, sc, a, b, ns, rfl, s2, hS, na, hb2, hns, fun H3 r x z bg hr3 hz => ?_⟩
      exact ⟨r, _, _, _, rfl, rfl, SqL.of hr3, atI_nat (j := 1) rfl, hnx _ _ ⟨z, bg.keeps s2 na, bg.bag, hz, rfl⟩⟩
    rintro σ3 H3 ⟨z0, s3, hb3, hz0, rfl⟩
    refine seq_mid (fun σ' H' => ∃ (z : Tx) (v : Option V), Same H H' ∧ BagAt H' a ∧ z.length ≤ 4000000 ∧ σ' = [some (.ref sc), some (.ref a), some (sideV b), some (.str (S z)), v, none, none, none, none]) ?_ ?_
    rotate_left
    · intro nx hnx
      refine ⟨_, rfl, by show 3 ≤ sizeLine; decide, fun l hl => .inl ⟨a, l, _, rfl, hb3.same (same_new hl), upd_same, hb3.ne hl, by decide, by decide, fun H4 x bg hx => ?_⟩⟩
      have bg' : Bg a H3 H4 := (Bg.of_same hb3 (same_new hl)).trans bg
      obtain ⟨n, hn, rfl⟩ : ∃ n : Nat, n ≤ 2 ∧ x = .int (n : Nat) := by
        simp only [List.mem_cons, List.not_mem_nil, or_false] at hx
        rcases hx with rfl | rfl | rfl
        · exact ⟨1, by decide, rfl⟩
        · exact ⟨0, by decide, rfl⟩
        · exact ⟨2, by decide, rfl⟩
      refine ⟨_, rfl, by omega, by omega, ?_⟩
      rw [Int.toNat_natCast]
      refine for_it (n := n) (G := fun _ => True) walk_range (fun i σ H' => ∃ (z : Tx) (v : Option V), Same H H' ∧ BagAt H' a ∧ z.length ≤ (if i = 0 then 400000 else if i = 1 then 1200500 else 3602000) ∧ σ = [some (.ref sc), some (.ref a), some (sideV b), some (.str (S z)), v, none, none, none, none])
        ⟨z0, none, bg'.keeps s3 na, bg'.bag, hz0, rfl⟩ (fun _ _ _ _ _ => trivial) ?_ ?_
      · rintro i x σ H5 H6 hi ⟨z, v, s5, hb5, hz, rfl⟩ ⟨rfl, rfl⟩
        have hz1 : z.length ≤ 1300000 := by
          split at hz
          · omega
          · split at hz <;> omega
        refine ⟨_, rfl, _, rfl, a, S z, rfl, hb5, by rw [S_len]; exact hz1, fun H7 z' bg7 hz' => ?_⟩
        rw [← S_tl z']
        refine ⟨TL.tl z', _, bg7.keeps s5 na, bg7.bag, ?_, rfl⟩
        rw [S_len] at hz'
        have e : (TL.tl z').length = z'.length := by rw [← S_len, S_tl]
        rw [e]
        split at hz
        · rename_i h0
          rw [if_neg (by omega), if_pos (by omega)]
          omega
        · split at hz
          · rw [if_neg (by omega), if_neg (by omega)]
            omega
          · omega
      · rintro σ H5 ⟨z, v, s5, hb5, hz, rfl⟩
        refine hnx _ _ ⟨z, v, s5, hb5, ?_, rfl⟩
        split at hz
        · omega
        · split at hz <;> omega
    rintro σ4 H4 ⟨z, v4, s4, hb4, hz, rfl⟩
    refine seq_mid (fun σ' H' => ∃ p1 p2 lr, Bg a H4 H' ∧ p1 ≠ p2 ∧ H4 p1 = none ∧ H4 p2 = none ∧ H4 lr = none ∧ lr ≠ p1 ∧ lr ≠ p2 ∧ RdAt D b false H' p1 [p1] RS.init ∧ RdAt D b false H' p2 [p2] RS.init ∧ H' lr = some (.lst [.ref p1, .ref p2]) ∧ σ' = [some (.ref sc), some (.ref a), some (sideV b), some (.str (S z)), v4, some (.ref lr), none, none, none]) ?_ ?_
    rotate_left
    · intro nx hnx
      refine ⟨_, rfl, fun p1 dx1 nx1 nd1 ne1 => ⟨b, p1, dx1, rfl, upd_same, fun H5 k5 rd1 => ⟨rfl, ?_⟩⟩⟩
      have s5 : Same H4 H5 := made_same nx1 nd1 k5
      refine ⟨_, rfl, rfl, rfl, fun p2 dx2 nx2 nd2 ne2 => ⟨b, p2, dx2, rfl, upd_same, fun H6 k6 rd2 => ⟨rfl, ?_⟩⟩⟩
      have s6 : Same H5 H6 := made_same nx2 nd2 k6
      refine ⟨by show 2 ≤ sizeLine; decide, fun lr hlr => ?_⟩
      have h1 : H5 p1 ≠ none := rd1.hasF p1 (by simp)
      have h2 : H6 p2 ≠ none := rd2.hasF p2 (by simp)
      have e1 : ∀ {c}, H5 c = none → H4 c = none := fun {c} hc => by
        cases hz : H4 c with
        | none => rfl
        | some o => rw [s5 _ _ hz] at hc; cases hc
      have e2 : ∀ {c}, H6 c = none → H5 c = none := fun {c} hc => by
        cases hz : H5 c with
        | none => rfl
        | some o => rw [s6 _ _ hz] at hc; cases hc
      have s7 := same_new (o := .lst [.ref p1, .ref p2]) hlr
      exact hnx _ _ ⟨p1, p2, lr, Bg.of_same hb4 ((s5.trans s6).trans s7), fun z => h1 (by rw [z]; exact nx2), nx1, e1 nx2, e1 (e2 hlr), fun z => h1 (by rw [← z]; exact e2 hlr), fun z => h2 (by rw [← z]; exact hlr), (rd1.same s6).same s7, rd2.same s7, upd_same, rfl⟩
    rintro σ5 H5 ⟨p1, p2, lr, bg5, np, n1, n2, nl, nl1, nl2, rd1, rd2, hlr, rfl⟩
    have hb5 := bg5.bag
    have na1 : a ∉ [p1] := by
      rw [List.mem_singleton]
      exact fun z => hb4.has (by rw [z]; exact n1)
    have na2 : a ∉ [p2] := by
      rw [List.mem_singleton]
      exact fun z => hb4.has (by rw [z]; exact n2)
    have nal : lr ≠ a := hb4.ne nl
    refine seq_mid (fun σ' H' => ∃ (lc c1 c2 : Addr) (ps1 ps2 : List Tx), Bg a H5 H' ∧ H5 c1 = none ∧ H5 c2 = none ∧ H5 lc = none ∧ H' c1 = some (.lst (ps1.map sV)) ∧ H' c2 = some (.lst (ps2.map sV)) ∧ H' lc = some (.lst [.ref c1, .ref c2]) ∧ ps1.flatten = z ∧ ps2.flatten = z ∧ ps1.length ≤ 50 ∧ ps2.length ≤ 50 ∧
      σ' = [some (.ref sc), some (.ref a), some (sideV b), some (.str (S z)), v4, some (.ref lr), some (.ref lc), none, none]) ?_ ?_
    rotate_left
    · intro nx hnx
      refine ⟨_, rfl, _, rfl, a, z, rfl, hb5, hz, fun H6 c1 ps1 bg6 nc1 hc1 fl1 _ g1 => ?_⟩
      refine ⟨_, rfl, _, rfl, a, z, rfl, bg6.bag, hz, fun H7 c2 ps2 bg7 nc2 hc2 fl2 _ g2 => ?_⟩
      refine ⟨by show 2 ≤ sizeLine; decide, fun lc hlc => ?_⟩
      have s8 := same_new (o := .lst [.ref c1, .ref c2]) hlc
      have bg8 := (bg6.trans bg7).same s8
      exact hnx _ _ ⟨lc, c1, c2, ps1, ps2, bg8, nc1, bg6.free hb5 nc2, (bg6.trans bg7).free hb5 hlc, s8 _ _ (bg7.1 _ _ hc1 (hb5.ne nc1)), s8 _ _ hc2, upd_same, fl1, fl2, g1, g2, rfl⟩
    rintro σ6 H6 ⟨lc, c1, c2, ps1, ps2, bg6, nc1, nc2, nlc, hc1, hc2, hlc, fl1, fl2, g1, g2, rfl⟩
    have hb6 := bg6.bag
    refine seq_mid (fun σ' H' => ∃ lf, LS D b a lr lc c1 c2 lf p1 p2 ps1 ps2 [] [] H' [p1] [p2] ∧ σ' = [some (.ref sc), some (.ref a), some (sideV b), some (.str (S z)), v4, some (.ref lr), some (.ref lc), some (.ref lf), none]) ?_ ?_
    rotate_left
    · intro nx hnx
      refine ⟨by show 2 ≤ sizeLine; decide, fun lf hlf => hnx _ _ ⟨lf, ?_, rfl⟩⟩
      have s7 := same_new (o := .lst [str "", str ""]) hlf
      have h51 : H5 p1 ≠ none := rd1.hasF p1 (by simp)
      have h52 : H5 p2 ≠ none := rd2.hasF p2 (by simp)
      have hlr6 := bg6.1 _ _ hlr nal
      have q1 := rd1.bg bg6 hb5 na1
      have q2 := rd2.bg bg6 hb5 na2
      have h61 : H6 p1 ≠ none := q1.hasF p1 (by simp)
      have h62 : H6 p2 ≠ none := q2.hasF p2 (by simp)
      refine ⟨q1.same s7, q2.same s7, fun x hx z => ?_, fun x hx z => ?_, fun x hx z => ?_, hb6.same s7, s7 _ _ hlr6, s7 _ _ hlc, s7 _ _ hc1, s7 _ _ hc2, upd_same, fun x hx z => ?_⟩
      · rw [List.mem_singleton] at hx z
        exact np (hx.symm.trans z)
      · rw [List.mem_singleton] at z
        subst z
        simp only [List.mem_cons, List.not_mem_nil, or_false] at hx
        rcases hx with rfl | rfl | rfl | rfl | rfl | rfl
        · exact na1 (by simp)
        · exact nl1 rfl
        · exact h51 nlc
        · exact h51 nc1
        · exact h51 nc2
        · exact h61 hlf
      · rw [List.mem_singleton] at z
        subst z
        simp only [List.mem_cons, List.not_mem_nil, or_false] at hx
        rcases hx with rfl | rfl | rfl | rfl | rfl | rfl
        · exact na2 (by simp)
        · exact nl2 rfl
        · exact h52 nlc
        · exact h52 nc1
        · exact h52 nc2
        · exact h62 hlf
      · subst z
        simp only [List.mem_cons, List.not_mem_nil, or_false] at hx
        rcases hx with rfl | rfl | rfl | rfl | rfl
        · exact hb6.has hlf
        · rw [hlf] at hlr6; cases hlr6
        · rw [hlf] at hlc; cases hlc
        · rw [hlf] at hc1; cases hc1
        · rw [hlf] at hc2; cases hc2
    rintro σ7 H7 ⟨lf, ls, rfl⟩
    refine seq_mid (fun σ' H' => σ' = [some (.ref sc), some (.ref a), some (sideV b), some (.str (S z)), v4, some (.ref lr), some (.ref lc), some (.ref lf), none] ∧ H' = H7) ?_ ?_
    rotate_left
    · intro nx hnx
      refine ⟨_, rfl, lr, _, _, _, rfl, rfl, SqL.of ls.hlr, atI_nat (j := 0) rfl, b, false, p1, _, RS.init, .non, rfl, ls.r1, rfl, _, rfl, iteF ?_⟩
      refine ⟨_, rfl, lr, _, _, _, rfl, rfl, SqL.of ls.hlr, atI_nat (j := 1) rfl, b, false, p2, _, RS.init, .non, rfl, ls.r2, rfl, _, rfl, iteF ?_⟩
      exact hnx _ _ ⟨rfl, rfl⟩
    rintro σ8 H8 ⟨rfl, rfl⟩
    have mx : ∃ n : Nat, (if ((ps2.length : Nat) : Int) > ((ps1.length : Nat) : Int) then ((ps2.length : Nat) : Int) else ((ps1.length : Nat) : Int)) = (n : Nat) ∧ ps1.length ≤ n ∧ ps2.length ≤ n ∧ n ≤ 50 := by
      by_cases hc : ps2.length > ps1.length
      · exact ⟨ps2.length, by rw [if_pos (by omega)], by omega, Nat.le_refl _, g2⟩
      · exact ⟨ps1.length, by rw [if_neg (by omega)], Nat.le_refl _, by omega, g1⟩
    obtain ⟨n, hn, hn1, hn2, hn50⟩ := mx
    have tk : ∀ (ps : List Tx) (i : Nat) (hi : i < ps.length), (ps.take (i + 1)).flatten = (ps.take i).flatten ++ ps[i] := fun ps i hi => by
      rw [List.take_succ, List.getElem?_eq_getElem hi]
      show (ps.take i ++ [ps[i]]).flatten = _
      rw [List.flatten_append, List.flatten_cons, List.flatten_nil, List.append_nil]
    have tl : ∀ (ps : List Tx) (i : Nat), ¬ i < ps.length → (ps.take (i + 1)).flatten = (ps.take i).flatten := fun ps i hi => by
      rw [List.take_of_length_le (by omega), List.take_of_length_le (by omega)]
    have lenb : ∀ (ps : List Tx) (i : Nat) (hi : i < ps.length), ps.flatten = z → (ps.take i).flatten.length + ps[i].length ≤ 4000000 := fun ps i hi e => by
      have e1 := tk ps i hi
      have e2 := congrArg List.length e1
      rw [List.length_append] at e2
      have e3 : ps.flatten = (ps.take (i + 1)).flatten ++ (ps.drop (i + 1)).flatten := by rw [← List.flatten_append, List.take_append_drop]
      have e4 := congrArg List.length e3
      rw [List.length_append, e] at e4
      omega
    have mapat : ∀ (ps : List Tx) (i : Nat) (hi : i < ps.length), (ps.map sV)[i]? = some (sV ps[i]) := fun ps i hi => by
      rw [List.getElem?_map, List.getElem?_eq_getElem hi]
      rfl
    refine seq_mid (fun σ' H' => ∃ v4 v8 F1 F2, LS D b a lr lc c1 c2 lf p1 p2 ps1 ps2 z z H' F1 F2 ∧ σ' = [some (.ref sc), some (.ref a), some (sideV b), some (.str (S z)), v4, some (.ref lr), some (.ref lc), some (.ref lf), v8]) ?_ ?_
    rotate_left
    · intro nx hnx
      refine ⟨_, rfl, lc, _, _, _, rfl, rfl, SqL.of ls.hlc, atI_nat (j := 0) rfl, c1, _, rfl, .inl (SqL.of ls.hc1), _, rfl, lc, _, _, _, rfl, rfl, SqL.of ls.hlc, atI_nat (j := 1) rfl, c2, _, rfl, .inl (SqL.of ls.hc2), _, _, rfl, ?_⟩
      rw [List.length_map, List.length_map, hn]
      refine ⟨_, rfl, by omega, by omega, ?_⟩
      rw [Int.toNat_natCast]
      refine for_it (n := n) (G := fun _ => True) walk_range (fun i σ H' => ∃ v4 v8 F1 F2, LS D b a lr lc c1 c2 lf p1 p2 ps1 ps2 (ps1.take i).flatten (ps2.take i).flatten H' F1 F2 ∧ σ = [some (.ref sc), some (.ref a), some (sideV b), some (.str (S z)), v4, some (.ref lr), some (.ref lc), some (.ref lf), v8])
        ⟨v4, none, _, _, ls, rfl⟩ (fun _ _ _ _ _ => trivial) ?_ ?_
      · rintro i x σ H9 H9' hi ⟨v4, v8, F1, F2, l9, rfl⟩ ⟨rfl, rfl⟩
        refine ⟨_, rfl, by decide, by decide, ?_⟩
        refine for_it (n := 2) (G := fun _ => True) walk_range (fun j σ H' => ∃ v8 F1 F2, LS D b a lr lc c1 c2 lf p1 p2 ps1 ps2 (ps1.take (if 1 ≤ j then i + 1 else i)).flatten (ps2.take (if 2 ≤ j then i + 1 else i)).flatten H' F1 F2 ∧ σ = [some (.ref sc), some (.ref a), some (sideV b), some (.str (S z)), some (.int (0 + (i : Nat))), some (.ref lr), some (.ref lc), some (.ref lf), v8])
          ⟨v8, F1, F2, l9, rfl⟩ (fun _ _ _ _ _ => trivial) ?_ ?_
        · rintro j x σ H10 H10' hj ⟨v8, F1, F2, l10, rfl⟩ ⟨rfl, rfl⟩
          rcases (show j = 0 ∨ j = 1 by omega) with rfl | rfl
          · have l10 : LS D b a lr lc c1 c2 lf p1 p2 ps1 ps2 (ps1.take i).flatten (ps2.take i).flatten H10' F1 F2 := l10
            refine ⟨_, rfl, _, rfl, _, rfl, lc, _, _, _, rfl, rfl, SqL.of l10.hlc, by rw [Int.zero_add]; exact atI_nat (j := 0) rfl, c1, _, rfl, .inl (SqL.of l10.hc1), _, _, rfl, rfl, _, rfl, ?_⟩
            rw [List.length_map]
            refine ite2 (fun h => ?_) (fun h => ?_)
            · have hi' : i < ps1.length := by
                have := of_decide_eq_true h
                omega
              refine ⟨_, rfl, _, rfl, lr, _, _, _, rfl, rfl, SqL.of l10.hlr, by rw [Int.zero_add]; exact atI_nat (j := 0) rfl, _, rfl, _, rfl, _, rfl, lf, _, _, _, rfl, rfl, SqL.of l10.hlf, by rw [Int.zero_add]; exact atI_nat (j := 0) rfl, _, rfl, _, rfl, lc, _, _, _, rfl, rfl, SqL.of l10.hlc, by rw [Int.zero_add]; exact atI_nat (j := 0) rfl, _, rfl, c1, _, _, _, rfl, rfl, SqL.of l10.hc1, by rw [Int.zero_add]; exact atI_nat (mapat ps1 i hi'), b, p1, (ps1.take i).flatten, ps1[i], F1, rfl, lenb ps1 i hi' fl1, l10.r1, fun H11 F' f11 rd11 => ⟨_, rfl, iteF ?_⟩⟩
              obtain ⟨e1, l11⟩ := l10.fed1 NE f11 rd11
              have e2 := f11.keep _ _ l10.hlc (l10.o1 lc (by simp))
              have e3 := f11.keep _ _ l10.hc1 (l10.o1 c1 (by simp))
              have lb := lenb ps1 i hi' fl1
              rw [← tk ps1 i hi'] at l11
              refine ⟨_, rfl, _, rfl, lf, _, _, _, rfl, rfl, SqL.of e1, by rw [Int.zero_add]; exact atI_nat (j := 0) rfl, _, rfl, _, rfl, lc, _, _, _, rfl, rfl, SqL.of e2, by rw [Int.zero_add]; exact atI_nat (j := 0) rfl, _, rfl, c1, _, _, _, rfl, rfl, SqL.of e3, by rw [Int.zero_add]; exact atI_nat (mapat ps1 i hi'), _, _, rfl, rfl, by rw [S_len, S_len]; exact Nat.le_trans lb (by decide), ?_⟩
              rw [S_app, ← tk ps1 i hi']
              refine ⟨_, rfl, _, rfl, lf, _, _, 0, rfl, rfl, e1, rfl, ?_⟩
              exact ⟨_, F', F2, l11, rfl⟩
            · have hi' : ¬ i < ps1.length := fun z => h (decide_eq_true (by omega))
              rw [← tl ps1 i hi'] at l10
              exact ⟨_, F1, F2, l10, rfl⟩
          · have l10 : LS D b a lr lc c1 c2 lf p1 p2 ps1 ps2 (ps1.take (i + 1)).flatten (ps2.take i).flatten H10' F1 F2 := l10
            refine ⟨_, rfl, _, rfl, _, rfl, lc, _, _, _, rfl, rfl, SqL.of l10.hlc, by rw [Int.zero_add]; exact atI_nat (j := 1) rfl, c2, _, rfl, .inl (SqL.of l10.hc2), _, _, rfl, rfl, _, rfl, ?_⟩
            rw [List.length_map]
            refine ite2 (fun h => ?_) (fun h => ?_)
            · have hi' : i < ps2.length := by
                have := of_decide_eq_true h
                omega
              refine ⟨_, rfl, _, rfl, lr, _, _, _, rfl, rfl, SqL.of l10.hlr, by rw [Int.zero_add]; exact atI_nat (j := 1) rfl, _, rfl, _, rfl, _, rfl, lf, _, _, _, rfl, rfl, SqL.of l10.hlf, by rw [Int.zero_add]; exact atI_nat (j := 1) rfl, _, rfl, _, rfl, lc, _, _, _, rfl, rfl, SqL.of l10.hlc, by rw [Int.zero_add]; exact atI_nat (j := 1) rfl, _, rfl, c2, _, _, _, rfl, rfl, SqL.of l10.hc2, by rw [Int.zero_add]; exact atI_nat (mapat ps2 i hi'), b, p2, (ps2.take i).flatten, ps2[i], F2, rfl, lenb ps2 i hi' fl2, l10.r2, fun H11 F' f11 rd11 => ⟨_, rfl, iteF ?_⟩⟩
              obtain ⟨e1, l11⟩ := l10.fed2 NE f11 rd11
              have e2 := f11.keep _ _ l10.hlc (l10.o2 lc (by simp))
              have e3 := f11.keep _ _ l10.hc2 (l10.o2 c2 (by simp))
              have lb := lenb ps2 i hi' fl2
              rw [← tk ps2 i hi'] at l11
              refine ⟨_, rfl, _, rfl, lf, _, _, _, rfl, rfl, SqL.of e1, by rw [Int.zero_add]; exact atI_nat (j := 1) rfl, _, rfl, _, rfl, lc, _, _, _, rfl, rfl, SqL.of e2, by rw [Int.zero_add]; exact atI_nat (j := 1) rfl, _, rfl, c2, _, _, _, rfl, rfl, SqL.of e3, by rw [Int.zero_add]; exact atI_nat (mapat ps2 i hi'), _, _, rfl, rfl, by rw [S_len, S_len]; exact Nat.le_trans lb (by decide), ?_⟩
              rw [S_app, ← tk ps2 i hi']
              refine ⟨_, rfl, _, rfl, lf, _, _, 1, rfl, rfl, e1, rfl, ?_⟩
              exact ⟨_, F1, F', l11, rfl⟩
            · have hi' : ¬ i < ps2.length := fun z => h (decide_eq_true (by omega))
              rw [← tl ps2 i hi'] at l10
              exact ⟨_, F1, F2, l10, rfl⟩
        · rintro σ H10 ⟨v8, F1, F2, l10, rfl⟩
          exact ⟨_, v8, F1, F2, l10, rfl⟩
      · rintro σ H9 ⟨v4, v8, F1, F2, l9, rfl⟩
        refine hnx _ _ ⟨v4, v8, F1, F2, ?_, rfl⟩
        rw [List.take_of_length_le hn1, List.take_of_length_le hn2, fl1, fl2] at l9
        exact l9
    rintro σ9 H9 ⟨v4, v8, F1, F2, l9, rfl⟩
    refine seq_mid (fun σ' H' => (∃ x, σ' = [some (.ref sc), some (.ref a), some (sideV b), x, v4, some (.ref lr), some (.ref lc), some (.ref lf), v8]) ∧ BagAt H' a) ?_ ?_
    rotate_left
    · intro nx hnx
      refine ⟨_, rfl, lr, _, _, _, rfl, rfl, SqL.of l9.hlr, atI_nat (j := 1) rfl, _, rfl, _, rfl, b, p2, z, F2, rfl, hz, l9.r2, fun H10 F' f2 => ⟨_, rfl, iteF ?_⟩⟩
      obtain ⟨q1, _⟩ := l9.r1.other l9.r2 NE l9.dj f2
      have hlr' := f2.keep _ _ l9.hlr (l9.o2 lr (by simp))
      refine ⟨_, rfl, lr, _, _, _, rfl, rfl, SqL.of hlr', atI_nat (j := 0) rfl, _, rfl, _, rfl, b, p1, z, F1, rfl, hz, q1, fun H11 F'' f1 => ⟨_, rfl, iteF (hnx _ _ ⟨⟨_, rfl⟩, ?_⟩)⟩⟩
      obtain ⟨bd, bk, by_, hb, hby⟩ := l9.bag
      exact ⟨bd, bk, by_, f1.keep _ _ (f2.keep _ _ hb (l9.o2 a (by simp))) (l9.o1 a (by simp)), hby⟩
    rintro σ10 H10 ⟨⟨x, rfl⟩, hb10⟩
    refine ⟨_, rfl, by show 5 ≤ sizeLine; decide, fun l hl => .inl ⟨a, l, _, rfl, hb10.same (same_new hl), upd_same, hb10.ne hl, by decide, by decide, fun H11 x bg hx => ?_⟩⟩
    obtain ⟨u, rfl, hu⟩ : ∃ u : PySem.Str, x = .str u ∧ u ∉ ([PySem.Str.ofString "asks", PySem.Str.ofString "answers"] : List PySem.Str) := by
      simp only [List.mem_cons, List.not_mem_nil, or_false] at hx
      rcases hx with rfl | rfl | rfl | rfl | rfl
      · exact ⟨_, rfl, by decide +kernel⟩
      · exact ⟨_, rfl, by decide +kernel⟩
      · exact ⟨_, rfl, by decide +kernel⟩
      · exact ⟨_, rfl, by decide +kernel⟩
      · exact ⟨_, rfl, by decide +kernel⟩
    exact ⟨u, rfl, hu, fun H12 s12 => q _⟩
end
end K6

set_option Elab.async false
set_option linter.all false
set_option maxRecDepth 100000
set_option maxHeartbeats 4000000
/-! KX3: super().__init__(..) of an own exception over ValueError, as a statement ahead of others. -/
namespace K6
open PySem PySem.Spec PyProof.Rows L2
section
variable {X : Cx}
/-- the wrapper that super().__init__ is: called -/
theorem call_mwV {pins : List (Addr × Obj)} {σ : L2.St} {H : Hp} {s : Shared} {A : Around} {E : Value → Shared → Prop} {Q : Value → Shared → Prop} {x C u : Addr} {us : List Value} (T : OexC X.K C) (I : Inv X ((u, PySem.W.kxs_mw "ValueError.__init__" x) :: pins) σ H s) (e : H x = some (exo x C none)) (hl : us.length ≤ sizeLine)
    (h : ∀ s', Inv X ((u, PySem.W.kxs_mw "ValueError.__init__" x) :: pins) σ H s' → Q .none s') : wpAny (model X.prog X.w) A (call (.ref u) us) Q E s := by
  obtain ⟨nm, q, N, bs, bm, sn, sub, ab, col, dd, k0, k1, k2, k3, k5, hC, hbm⟩ := T.cls
  obtain ⟨t1, ho⟩ := exo_at I.hok e
  have hu := ClX.pin_at I
  have hCh := I.kIn _ _ hC
  obtain ⟨hp, g, d, t, os⟩ := s
  refine wpAny_call (codeAny_of_tree ?_)
  show wpAny _ A.in1 (callAny (.ref u) ⟨us, []⟩) _ _ _
  simp only [callAny]
  refine wpAny_bind (wpAny_load hu ?_)
  simp only [PySem.W.kxs_mw, show (Value.type "method-wrapper" == Value.type "method" || Value.type "method-wrapper" == Value.type "builtin_function_or_method" || Value.type "method-wrapper" == Value.type "method-wrapper") = true by decide, if_true]
  refine PySem.W.KFB.if_so (by decide) ?_
  refine wpAny_bind (PySem.W.check_bound_init PySem.F.excBase_ValueError.toExcCallFacts hCh ho rfl ?_)
  refine wpAny_bind (wpAny_pure (wpAny_pure ?_))
  refine ⟨plainId_quiet PySem.F.excBase_ValueError.init.plain _, codeAny_builtin PySem.F.excBase_ValueError.initEntry ?_⟩
  refine PySem.W.exc_init_tree (cls := .ref C) (t0 := t1) (dv := none) (c2 := .none) (c3 := .none) (b4 := .bool false) ho hl fun h' k hx _ => ?_
  have J := I.write (t' := t) (x := x) (e := x) (o := exo x C none) (by rw [e]; exact True.intro) (.inl rfl) k ⟨_, hx⟩ (exo_ok hx)
  have eu : upd H x (exo x C none) = H := by
    funext b
    by_cases hb : b = x
    · rw [hb, upd_same, e]
    · rw [upd_ne hb]
  rw [eu] at J
  exact h _ J
theorem sup_exc {qual : PySem.Str} {st : Stmt} {D f cda cc C x : Addr} {fd : FuncData} {body rest : List Stmt} {p0 p1 ap cp ep : Pos} {e : Expr} {es : List Expr} {t : TA} {s : Shared} {σ : L2.St} {H : Hp} {ar : Arg} {R : Flow → Shared → Prop}
    (S : SupF X.prog X.K qual st D f cda cc fd) (T : OexC X.K C) (hsub : PySem.W.mroIn X.K C (.ref D) = some true) (hcls : ∃ cd, PySem.W.clsIn X.K C = some cd) (hini : PySem.W.ks_superIn X.K C D "__init__" = some (some (.builtin "ValueError.__init__")))
    (hB : PySem.W.subIn X.K (.ref C) (.type "ValueError") = some true) (ha : PA X (e :: es) t)
    (hks : X.env.kindOf "super" = some .globalImplicit) (hkc : X.env.kindOf "__class__" = some .free) (hka : X.env.kindOf ar.arg = some .local) (hfu : X.env.func = some f) (hco : X.env.code = .ref cda) (hcl : X.env.cells.lookup ("__class__" : PySem.Str) = some cc)
    (hp : ((defArgs st).posonlyargs ++ (defArgs st).args).head? = some ar) (hN : X.N[0]? = some ar.arg) (hmg : X.mg "super" = none)
    (hi : interactive X.env = false) (hs : swapsWith (.Call (.Attribute (.Call (.Name "super" p0) [] [] p1) "__init__" ap) (e :: es) [] cp) none ep.line X.env = pure false)
    (hev : eval (.Call (.Attribute (.Call (.Name "super" p0) [] [] p1) "__init__" ap) (e :: es) [] cp) X.env = (do
      let ov ← attributeBase (.Call (.Name "super" p0) [] [] p1) "__init__" X.env (eval (.Call (.Name "super" p0) [] [] p1) X.env)
      standAt ap.atName
      let (f, first) ← holding [ov] (getMethod ov "__init__" (pure false))
      callWith cp f first (backTo cp (starEach (e :: es) X.env)) []))
    (hse : starEach (e :: es) X.env = (false, eval e X.env) :: starEach es X.env) (hpl : (backTo cp (starEach es X.env)).any (·.1) = false)
    (I : Inv X [] σ H s) (hσ : σ[0]? = some (some (.ref x))) (hx : H x = some (exo x C none))
    (hq : t σ H fun vs H1 => vs.length ≤ 1000 ∧ H1 x = some (exo x C none) ∧ ∀ s', Inv X [] σ H1 s' → _root_.PySem.wpAt (model X.prog X.w) X.A (.func body X.env) (execs rest X.env) R X.xe s') :
    _root_.PySem.wpAt (model X.prog X.w) X.A (.func body X.env) (execs (.Expr (.Call (.Attribute (.Call (.Name "super" p0) [] [] p1) "__init__" ap) (e :: es) [] cp) ep :: rest) X.env) R X.xe s := by
  obtain ⟨oc, od, dV, kV, doc, pm, an, ct, osl, rfl, lk⟩ := S.ex
  obtain ⟨ccl, cdd, vs, ccs, file, tf, lk2, hv2, hfile⟩ := S.rec_
  obtain ⟨cl, cld, csl, lk3⟩ := S.cell
  obtain ⟨cdD, hD⟩ := S.cls
  obtain ⟨cdC, hC⟩ := hcls
  refine ks_wpAt_execs_cons (ks_wpAt_Expr_any ?_ hi hs)
  refine ks_wpAt_MethodCall (pl := pure false) ?_ hev
  have KX := I.kIn
  obtain ⟨mb, hb1, hb2⟩ := I.mod.blt
  obtain ⟨m, hn, hloc⟩ := I.loc
  have hvis : Vis X.env.scope ar.arg := .inl hka
  obtain ⟨u, ru, hlook⟩ := hloc 0 _ _ hN hσ hvis
  obtain rfl : u = Value.ref x := ru
  have hm : m ar.arg = some (.ref x) := by
    rcases hlook with ⟨_, h⟩ | ⟨h, _⟩
    · exact h
    · rw [hka] at h
      rcases h with h | h <;> cases h
  obtain ⟨t1, ho⟩ := exo_at I.hok hx
  have J : PySem.W.InstAt s.heap x _ C none := ⟨ho, rfl, rfl, trivial⟩
  have hoD : ∃ oD, s.heap.get? D = some oD ∧ oD.data = .cls cdD := by
    unfold PySem.W.clsIn at hD
    split at hD
    · rename_i c d cd' sl ho
      cases hD
      exact ⟨_, KX _ _ ho, rfl⟩
    · cases hD
  obtain ⟨oD, hD1, hD2⟩ := hoD
  have hxC : x ≠ C := PySem.W.ks_ne KX J hC
  have hkind := I.ok.kind
  refine ks_wpAt_super_base hks hkc (by decide +kernel) hfu (KX _ _ lk) rfl hp hco (KX _ _ lk2) rfl hv2 hfile S.top ?_
  refine PySem.W.ks_loadName_global hkind hks (Calls.loadGlobal_builtin (by rw [I.ok.glob]; exact I.mod.glob.keeps I.bk) hmg (by rw [I.ok.blt]; exact hb1.keeps I.bk) ((hb2 _ (by decide +kernel)).trans (by decide +kernel)) ⟨rfl, ?_⟩)
  refine wpAny_loadName_free hkind hkc hcl ⟨_, KX _ _ lk3, rfl⟩ ?_
  refine wpAny_loadName_local hkind hka hn hm ?_
  refine ks_wpAny_isType_cls hD1 hD2 ⟨rfl, ?_⟩
  refine ks_wpAny_call_super hD1 hD2 ho rfl (fun c z => by cases z) (PySem.W.looks_mroIn KX hsub) (fun h' eo kk => ?_)
  have I1 : Inv X [] σ H ⟨h', s.gens, s.drawn, s.toks, s.os⟩ := I.kept (t' := s.toks) kk
  have KX1 := I1.kIn
  have J1 : PySem.W.InstAt h' x _ C none := ⟨kk _ _ ho, rfl, rfl, trivial⟩
  unfold PySem.W.ks_superIn at hini
  rw [hC] at hini
  refine PySem.W.kxs_getMethod PySem.W.kxs_ValueError eo (PySem.W.looks_opaque KX1 S.any) (l₀ := cdC.mro) (fun A Q E s k q => wpAny_bind ((PySem.W.looks_clsIn KX1 hC) A _ E s k (wpAny_pure q))) rfl KX1 hini (J1.type.andThen (PySem.W.looks_subIn KX1 hB)) hxC (by decide +kernel) ?_
  have I2 : Inv X ((h'.objs.size, PySem.W.kxs_mw "ValueError.__init__" x) :: []) σ H ⟨h'.push (PySem.W.kxs_mw "ValueError.__init__" x), s.gens, s.drawn, s.toks + 1, s.os⟩ :=
    ClX.pin_new (s := ⟨h', s.gens, s.drawn, s.toks, s.os⟩) I1 (fun _ _ z => Heap.get?_push_of_some _ z) (Nat.le_refl _) (Heap.get?_push_size h' rfl) (fun v z => nomatch z)
  rw [hse]
  refine PySem.W.kxs_callWith (i := "ValueError.__init__") (x := x) (by show (false || (backTo cp (starEach es X.env)).any (·.1)) = false; rw [hpl]; rfl) ?_
  refine Calls.evalArgs_plain ?_
  have r0 := ha.run cp _ _ σ H _ I2 hq
  rw [hse] at r0
  refine thn r0 fun us s3 ⟨vs, H2, I3, rv, q1, q2, q3⟩ => ⟨ClX.pin_at I3, ?_⟩
  refine call_mwV T I3 q2 ?_ fun s4 I4 => ?_
  · show us.length ≤ sizeLine
    rw [← Paired.length rv, sizeLine_eq]
    omega
  · exact q3 s4 (I4.pins_of fun p hp => absurd hp List.not_mem_nil)
end
end K6

set_option Elab.async false
set_option linter.all false
set_option maxRecDepth 100000
set_option maxHeartbeats 4000000
/-! KX4: InvalidValue('side'). -/
namespace K6
open PySem PySem.Spec PyProof.Rows L2 NdefX
section
variable {D : Ad} {b : Bool} {A : Ax}
variable {P : Program} {w : World} {K : PySem.W.Frag} {mg : PySem.Str → Option Value} {base : Heap}
def sp_iv (C : Addr) : Sp := fun vs H Q _ => ∃ (p : Addr) (nm : PySem.Str), vs = [.ref p, .str nm] ∧ H p = some (exo p C none) ∧ nm.length ≤ 1000 ∧ ∀ dx, H dx = none → dx ≠ p → Q .non (upd (upd H dx (exd dx [("name", .str nm)])) p (exo p C (some dx)))
structure IvF (P : Program) (K : PySem.W.Frag) (C f cda cc : Addr) (fd : FuncData) : Prop where
  S : SupF P K "InvalidValue.__init__" s_InvalidValue___init__ C f cda cc fd
  T : OexC K C
  sub : PySem.W.mroIn K C (.ref C) = some true
  cls : ∃ cd, PySem.W.clsIn K C = some cd
  init : PySem.W.ks_superIn K C C "__init__" = some (some (.builtin "ValueError.__init__"))
  vE : PySem.W.subIn K (.ref C) (.type "ValueError") = some true
  no : PySem.W.findIn K (.ref C) "name" = some none
theorem ok_ivinit {C f cda cc : Addr} {fd : FuncData} (T : Txt K mg) (I0 : IvF P K C f cda cc fd) : FnOk P w K mg base CX0 2 f fd ["self", "name"] (sp_iv C) := by
  refine sup_ok (N := ["self", "name", "__class__"]) I0.S (nscope_by (by decide +kernel)) (fun vs H Q E h => ?_) (fun A outer s H vs Q E hr h s1 I => ?_)
  · obtain ⟨p, nm, rfl, _⟩ := h
    rfl
  · obtain ⟨p, nm, rfl, hp, hl, q⟩ := h
    refine sup_exc (X := ncx CX0 P w K mg base ["self", "name", "__class__"] (supN "InvalidValue.__init__" s_InvalidValue___init__ cda cc) f A outer s H E) I0.S I0.T I0.sub I0.cls I0.init I0.vE
      (pa_cons (pe_joined (PJ.cons pe_str (PJ.cons (pe_fmt (pv 1)) (PJ.cons pe_str PJ.nil)))) pa_nil) rfl rfl rfl rfl rfl rfl rfl rfl T.super rfl rfl rfl rfl rfl I rfl hp ?_
    have e1 : (PySem.Str.empty ++ PySem.Str.ofString "the value of ").length = 13 := by decide +kernel
    have e2 : (PySem.Str.ofString " is not allowed").length = 15 := by decide +kernel
    have e3 : (PySem.Str.empty ++ PySem.Str.ofString "the value of " ++ nm).length = 13 + nm.length := by rw [str_len_app, e1]
    refine ⟨_, rfl, by decide +kernel, _, rfl, .inl ⟨_, rfl, by show nm.length ≤ 16777216; omega, _, rfl, by rw [e3]; show _ ≤ 16777216; omega, _, rfl, by rw [str_len_app, e3, e2]; show _ ≤ 16777216; omega, by show 1 ≤ 1000; decide, hp, fun s2 I2 => ?_⟩⟩
    refine at_cons (X := ncx CX0 P w K mg base ["self", "name", "__class__"] (supN "InvalidValue.__init__" s_InvalidValue___init__ cda cc) f A outer s H E) (ps_ost (pv 0) (pv 1)) I2 ?_
    exact ⟨_, rfl, _, rfl, p, C, rfl, I0.T, I0.no, .inl ⟨hp, fun dx hn hne s3 I3 => _root_.PySem.wpAt_of_wpAny (wpAny_execs_nil ⟨rfl, _, _, I3, q dx hn hne⟩)⟩⟩
/-- InvalidValue.__init__ as the class has it -/
structure IvO (P : Program) (K : PySem.W.Frag) (C : Addr) (f cda cc : Addr) (fd : FuncData) : Prop where
  F : IvF P K C f cda cc fd
  init : PySem.W.findIn K (.ref C) "__init__" = some (some (.ref f))
  ty : PySem.W.typeIn K (.ref f) = some (.type "function")
  dfl : fd.defaults = .none
theorem IvO.binds {C f cda cc : Addr} {fd : FuncData} (I : IvO P K C f cda cc fd) : Binds K fd ["self", "name"] [] := by
  obtain ⟨oc, od, dV, kV, doc, pm, an, ct, osl, rfl, lk⟩ := I.F.S.ex
  obtain rfl : dV = Value.none := I.dfl
  exact Binds.all fun us hl => match us, hl with | [_, _], _ => rfl
theorem inV_no {x : PySem.Str} {l : List PySem.Str} (h : x ∉ l) : inV (.str x) (l.map V.str) = false := by
  unfold inV
  rw [List.any_eq_false]
  intro y hy
  obtain ⟨t, ht, rfl⟩ := List.mem_map.mp hy
  show ¬ ((t == x) = true)
  intro he
  exact h ((eq_of_beq he) ▸ ht)
/-- Reader(side), side no side -/
def sp_rdbad (D : Ad) (iv : Addr) : Sp := fun vs H Q E => ∃ (p : Addr) (x : PySem.Str), vs = [.ref p, .str x] ∧ x ∉ ([PySem.Str.ofString "asks", PySem.Str.ofString "answers"] : List PySem.Str) ∧
  ∀ H' dd, Same H H' → H' dd = some (.xd [("name", str "side")]) → E (.ref iv) (some dd) H'
theorem ok_rdbad {f0 cda cc : Addr} {fd0 : FuncData} (T : Txt K mg) (O : Obs P K mg D) (Y : Exf K mg A) (I0 : IvO P K A.iv f0 cda cc fd0) :
    ∃ f fd, Mk K D.rdr f ∧ Binds K fd ["self", "side"] [] ∧ FnOk P w K mg base (L2.CX P w) 4 f fd ["self", "side"] (sp_rdbad D A.iv) := by
  obtain ⟨f, fd, M, F⟩ := O.rdI
  refine ⟨f, fd, M, F.binds fun _ _ _ _ _ _ us hl => match us, hl with | [_, _], _ => rfl, F.okX sc_Reader___init__ (fun vs H Q E h => ?_) (fun cdv A' outer s H vs Q E hr h => ?_)⟩
  · obtain ⟨p, x, rfl, _⟩ := h
    rfl
  · obtain ⟨p, x, rfl, hx, q⟩ := h
    obtain ⟨aSi, hSi, sSi⟩ := T.SIDES
    have hin : inV (.str x) [str "asks", str "answers"] = false := inV_no hx
    refine ⟨_, pss_cons (ps_if (pt_cmpR op_notIn_seq (pv 1) (pe_gv hSi rfl) (by rfl)) (pss_one (ps_raise rfl (takes_of rfl rfl rfl rfl) (pmk_oex I0.F.T I0.init I0.ty (ok_ivinit T I0.F) (hr.mono (by decide)) I0.binds .nil pass0 rfl Y.iv.g (pa_cons pe_str pa_nil)))) pss_nil) pss_never, ?_⟩
    refine ⟨_, rfl, aSi, _, rfl, .inr (sSi _), rfl, rfl, _, rfl, ?_⟩
    rw [hin]
    refine iteT ⟨by show 1 ≤ 1000; decide, fun a na => ⟨a, _, rfl, upd_same, by decide +kernel, fun dx nx ne => ⟨rfl, dx, _, upd_same, ?_, ?_, q _ dx ?_ upd_same⟩⟩⟩
    · rw [upd_ne ne, upd_same]
    · rw [upd_ne ne] at nx
      exact nx
    · rw [upd_ne ne] at nx
      intro c o e
      rw [upd_ne (ne_of_none e nx), del_ne (ne_of_none e na), upd_ne (ne_of_none e na), upd_ne (ne_of_none e nx), upd_ne (ne_of_none e na)]
      exact e
end
end K6

set_option Elab.async false
set_option linter.all false
set_option maxRecDepth 100000
set_option maxHeartbeats 4000000
/-! KX5: a side of another name is refused. -/
namespace L2
open PySem PySem.Spec PyProof.Rows
section
variable {X : Cx} {CX : CXT} {k : Nat} {f C : Addr} {fd : FuncData} {ps : List PySem.Str} {sp : Sp} {E : L2.St → XK} {x : PySem.Str} {p pos : Pos} {e : Expr} {es : List Expr} {t : TA} {ds : List Value} {dvs : List V}
/-- C(e, ..) that may raise within a try -/
def tMakeS (C : Addr) (sp : Sp) (dvs : List V) (E : L2.St → XK) (t : TA) : TE := fun σ H Q => t σ H fun vs H1 => ∀ x dx, H1 x = none → H1 dx = none → dx ≠ x →
  sp (.ref x :: (vs ++ dvs)) (upd (upd H1 dx (.own x)) x (.ins C dx [])) (fun v H2 => v = .non ∧ Q (.ref x) H2) (E σ)
theorem run_makeS {pins : List (Addr × Obj)} {σ : L2.St} {H : Hp} {s : Shared} {Q : VK} {us : List Value} {vs : List V} {E : XK} (M : Mk X.K C f) (F : FnOk X.prog X.w X.K X.mg X.base CX k f fd ps sp) (hr : Room (k + 1) X.A) (hb : Binds X.K fd ps ds) (hd : Vals dvs ds)
    (hx : PassesAt CX X σ E) (I : Inv X pins σ H s) (r : Vals vs us)
    (h : ∀ x dx, H x = none → H dx = none → dx ≠ x → sp (.ref x :: (vs ++ dvs)) (upd (upd H dx (.own x)) x (.ins C dx [])) (fun v H2 => v = .non ∧ Q (.ref x) H2) E) :
    wpAny (model X.prog X.w) X.A (call (.ref C) us) (EP X pins σ Q) X.xe s := by
  have hq := h (s.heap.objs.size + 1) s.heap.objs.size (I.hok.fresh (Nat.le_succ _)) (I.hok.fresh (Nat.le_refl _)) (Nat.ne_of_lt (Nat.lt_succ_self _))
  have I2 := Inv.made (C := C) I
  have r2 : Vals (V.ref (s.heap.objs.size + 1) :: (vs ++ dvs)) (Value.ref (s.heap.objs.size + 1) :: (us ++ ds)) := .cons rfl (r.append hd)
  have hl : (Value.ref (s.heap.objs.size + 1) :: us ++ ds).length = ps.length := by
    have e := r2.length
    rw [F.len _ _ _ _ hq] at e
    exact e.symm
  refine wpAny_call (make_map (f := f) I.kIn M.makes M.init (beq_iff_eq.mp M.fn) (codeAny_mono (F.run _ X.stack _ _ ⟨Value.ref (s.heap.objs.size + 1) :: us, []⟩ (Value.ref (s.heap.objs.size + 1) :: (us ++ ds)) _ _ E (hr.make C us [])
    (I2.env0.make C us []) (hb _ (Value.ref (s.heap.objs.size + 1) :: us) I2.kIn hl) r2 hq) fun r s' hq' => ?_))
  cases r with
  | error e => exact hx pins _ _ e s' I2 hq'
  | ok fl =>
    cases fl with
    | ret u =>
      obtain ⟨v, H', I3, rv, ev, q3⟩ := I2.after hq'
      subst ev
      exact ⟨rv, ⟨V.ref (s.heap.objs.size + 1), H', I3, rfl, q3⟩⟩
    | next => exact False.elim hq'
    | brk => exact False.elim hq'
    | cont => exact False.elim hq'
theorem pe_makeS (M : Mk X.K C f) (F : FnOk X.prog X.w X.K X.mg X.base CX k f fd ps sp) (hr : Room (k + 1) X.A) (hg : Gl X x) (hm : X.mg x = some (.ref C)) (hb : Binds X.K fd ps ds) (hd : Vals dvs ds) (hx : ∀ σ, PassesAt CX X σ (E σ))
    (ha : PA X (e :: es) t) (hdb : (x == ("__debug__" : PySem.Str)) = false := by decide) (he : starEach (e :: es) X.env = (false, eval e X.env) :: starEach es X.env := by rfl) (hpl : (backTo pos (starEach es X.env)).any (·.1) = false := by rfl) :
    PE X (.Call (.Name x p) (e :: es) [] pos) (tMakeS C sp dvs E t) := by
  refine ⟨fun pins s σ H Q I h => ?_⟩
  refine wpAny_Call_Name_kw (ld_glob I hg hm ?_ hdb)
  refine PySem.W.callWith_K (h₀ := X.base) I.ok.mod.kin M.kp (thn (ha.run pos pins s σ H _ I h) fun us s1 ⟨vs, H1, I1, r, q⟩ => ⟨I1.kIn, ?_⟩) he hpl
  exact run_makeS M F hr hb hd (hx σ) I1 r q
/-- isinstance(e, (c1, ..)), e the exception that the suite holds, with a dict of its own -/
def rIsED (K : PySem.W.Frag) (D a : Addr) (d : Option Addr) : List V → Hp → VK → Prop := fun xs H Q => ∃ (tp dd : Addr) (fs : List (PySem.Str × V)) (cs : List V) (us : List Value) (b : Bool), xs = [.ref a, .ref tp] ∧ d = some dd ∧ H dd = some (.xd fs) ∧ H tp = some (.tup cs) ∧ Paired ClsV cs us ∧ PySem.W.kitAny K (.ref D) us = some b ∧ Q (.bl b) H
theorem call_isED {a D : Addr} {d : Option Addr} {oe : Obj} {pn : List (Addr × Obj)} (C : ExcC X.K D) (hz : Zc (.ref D) d oe) (hf : ∃ vs, oe.data = .fields vs) : CallR (X.suite a ((a, oe) :: pn)) (.builtin "isinstance") (rIsED X.K D a d) := by
  intro pins s σ H xs us Q I r h
  obtain ⟨tp, dd, fs, cs, ws, b, rfl, rfl, hdd, hT, k, e, q⟩ := h
  obtain ⟨u1, u2, rfl, r1, r2⟩ := vals2 r
  cases (show u1 = Value.ref a from r1)
  cases (show u2 = Value.ref tp from r2)
  obtain ⟨hget, _⟩ := I.pin (a, oe) (List.mem_append.mpr (.inl List.mem_cons_self))
  obtain ⟨vs, hv⟩ := hf
  have hx : ObjOk X.prog X.w H s.heap dd (.xd fs) := I.hok dd _ hdd
  obtain ⟨mA, hns, hr⟩ := hx
  obtain ⟨od, ho, hl⟩ := lookIn_ns hns
  have J : PySem.W.InstAt s.heap a oe D (some od) := ⟨hget, hz.1, by unfold PySem.W.notCls; rw [hv] <;> rfl, by rw [hz.2]; exact ho⟩
  obtain ⟨_, its, rv, o, h1, h2, n, h3⟩ := (show ObjOk X.prog X.w H s.heap tp (.tup cs) from I.hok tp _ hT)
  have e3 := ClsV.all k rv
  subst e3
  obtain ⟨oc, od2, dt, sl⟩ := o
  simp only at h2 h3
  subst h2 h3
  exact PySem.W.kia_tup (PySem.W.kitx_exc (by obtain ⟨cd, hc, _⟩ := PySem.W.any_some C.hd; rw [hc]; rfl) C.hg C.hk C.hs C.ha C.hn C.ht C.hm) I.kIn J h1 e (fun z => nomatch z) fun tk => ⟨.bl b, H, I.tok tk, rfl, q⟩
end
end L2
namespace K6
open PySem PySem.Spec PyProof.Rows L2
section
variable {D : Ad} {b : Bool} {A : Ax}
variable {P : Program} {w : World} {K : PySem.W.Frag} {mg : PySem.Str → Option Value} {base : Heap}
theorem ok__law_side_refused {f0 cda cc : Addr} {fd0 : FuncData} (T : Txt K mg) (O : Obs P K mg D) (Y : Exf K mg A) (I0 : IvO P K A.iv f0 cda cc fd0) : Ok P w K mg base CX0 "_law_side_refused" 6 ["_law_side"] sp_side := by
  obtain ⟨fX, fdX, MX, bX, GX⟩ := ok_rdbad (w := w) (base := base) T O Y I0
  obtain ⟨f, fd, hm, F⟩ := T._law_side_refused
  refine ⟨f, fd, hm, F.kp, F.binds fun _ _ _ _ _ _ us hl => match us, hl with | [_], _ => rfl, F.ok sc__law_side_refused (fun vs H Q E h => ?_) (fun cdv A' outer s H vs Q E hr h => ?_)⟩
  · obtain ⟨x, rfl, _⟩ := h
    rfl
  · obtain ⟨x, rfl, hx, q⟩ := h
    have hr1 : Room 5 _ := hr.mono (by decide)
    refine ⟨_, pss_cons (ps_try_first (i := 1) (tb := fun W => tDrop (tMakeS D.rdr (sp_rdbad D A.iv) [] (WE W) (tCons (tVar 0) tNil)))
      (ts := fun a cls d => fun D' σ H => (cls = .ref A.iv) ∧ tRet (tAndV (tOp rEq (tXf a cls d A.iv "name" (tVar 1)) (tC (str "side"))) (tNotV (tCB (rIsED K A.iv a d) (tCons (tVar 1) (tCons (tTup (tCons (tC (.ref A.im)) (tCons (tC (.ref A.fr)) (tCons (tC (.ref A.rc)) tNil)))) tNil))))) D' σ H)
      rfl rfl sc__law_side_refused.nd rfl rfl ⟨rfl, by decide, Or.inl Y.iv.g⟩
      (fun W pn xe tk _ => pss_one (ps_expr (pe_makeS MX GX hr1 rfl O.rd bX .nil (fun σ => passAt tk σ) (by exact (pa_cons (pv 0) pa_nil)))))
      (fun a oe cls d pn hz hf => pss_when fun he => by
        subst he
        exact pss_one (ps_ret (pe_and (pe_cmpR op_eq (pe_xf ⟨Y.iv.ec.hg, Y.iv.ec.hk, Y.iv.ec.hs, Y.iv.ec.hd⟩ I0.F.no hz hf (pv 1)) pe_str (nomark _))
          (pe_one (pe_not (pe_callB (call_isED Y.iv.ec hz hf) rfl T.isinstance (by decide +kernel) (pa_cons (pv 1) (pa_cons (pe_tup (pa_cons (pe_glob (v := .ref A.im) rfl Y.im rfl) (pa_cons (pe_glob (v := .ref A.fr) rfl Y.fr rfl) (pa_cons (pe_glob (v := .ref A.rc) rfl Y.rc.g rfl) pa_nil)))) pa_nil))))))))) pss_never, ?_⟩
    refine ⟨_, rfl, fun r dx nr nd ne => ⟨r, x, rfl, hx, fun H' dd s1 hdd => ⟨Y.iv.te, fun a ha => ⟨rfl, ?_⟩⟩⟩⟩
    refine ⟨_, rfl, rfl, rfl, dd, _, _, rfl, hdd, rfl, rfl, ?_⟩
    rw [decide_eq_true rfl]
    refine ⟨_, rfl, iteT ?_⟩
    refine ⟨_, rfl, by show 3 ≤ sizeLine; decide, fun tp htp => ?_⟩
    refine ⟨tp, dd, [("name", str "side")], _, _, false, rfl, rfl, ?_, upd_same, .cons (.own _) (.cons (.own _) (.cons (.own _) .nil)), Y.ivO, _, rfl, q _ ?_⟩
    · rw [upd_ne (ne_of_none hdd htp)]
      exact hdd
    · have s0 : Same H (upd (upd H dx (.own r)) r (.ins D.rdr dx [])) := fun c o e => by
        rw [upd_ne (ne_of_none e nr), upd_ne (ne_of_none e nd)]
        exact e
      exact fun c o e => same_new htp c o (s1 c o (s0 c o e))
end
end K6

set_option Elab.async false
set_option linter.all false
set_option maxRecDepth 100000
set_option maxHeartbeats 4000000
/-! HD4: from the Bools of the top the walks' facts. -/
namespace K6
open PySem PySem.Spec PyProof.Rows L2 NdefX
/-! ### defs by addresses -/
theorem bareV_ok {v : Value} (h : bareV v = true) : v = .none := by
  cases v <;> first | rfl | cases h
theorem fnO_some {K : Fg} {a : Addr} {name qual : PySem.Str} {st : Stmt} {cl : List PySem.Str} (e : fnO K a = fnV name qual st cl) :
    ∃ (oc : Value) (od : Option Addr) (cs : List (PySem.Str × Addr)) (dV kV doc pm : Value) (an : Option Addr) (cdv ct : Value) (osl : Array (Option Value)),
      cs.map (·.1) = cl ∧ K.lookup a = some ⟨oc, od, .func (PySem.W.fnX name qual (defArgs st) (defBody st) (defScope st) cs dV kV doc pm an cdv ct), osl⟩ := by
  unfold fnO at e
  cases q : K.lookup a with
  | none =>
    rw [q] at e
    cases e
  | some o =>
    obtain ⟨oc, od, dt, osl⟩ := o
    rw [q] at e
    cases dt with
    | func z =>
      obtain ⟨z1, z2, z3, z4, z5, z6, z7, z8, z9, z10, z11, z12, z13, z14, z15⟩ := z
      have e2 : (some (z1, z2, z3, z4, z5, z6, z7.map (·.1), z15) : FnO) = some (name, qual, defArgs st, .stmts (defBody st), defScope st, mainGlobals, cl, builtinsNs) := e
      simp only [Option.some.injEq, Prod.mk.injEq] at e2
      obtain ⟨h1, h2, h3, h4, h5, h6, h7, h8⟩ := e2
      subst h1 h2 h3 h4 h5 h6 h8
      exact ⟨oc, od, z7, z8, z9, z10, z11, z12, z13, z14, osl, h7, rfl⟩
    | _ => cases e
theorem fun_of {K : Fg} {a : Addr} {name qual : PySem.Str} {st : Stmt} (e : fnO K a = fnV name qual st [] ∧ bareB K a qual = true) : ∃ z, Fun K name qual st a z := by
  obtain ⟨e1, e2⟩ := e
  obtain ⟨oc, od, cs, dV, kV, doc, pm, an, cdv, ct, osl, hc, lk⟩ := fnO_some e1
  obtain rfl : cs = [] := List.map_eq_nil_iff.mp hc
  unfold bareB at e2
  obtain ⟨k1, k2⟩ := He.ba e2
  rw [lk] at k2
  obtain ⟨k3, k4⟩ := He.ba (show (PySem.W.codeIn K cdv qual && bareV dV) = true from k2)
  obtain rfl : dV = Value.none := bareV_ok k4
  exact ⟨_, ⟨oc, od, kV, doc, pm, an, cdv, ct, osl, rfl, lk, k3⟩, k1⟩
/-! ### places -/
theorem eqO_ok {a b : Option (Option Value)} (h : eqO a b = true) : a = b := of_decide_eq_true h
theorem okB_ok {a : Option Bool} {b : Bool} (h : okB a b = true) : a = some b := by
  cases a with
  | none => cases h
  | some c => rw [eq_of_beq (show (c == b) = true from h)]
theorem tupA_ok {K : Fg} {a : Addr} {vs : List V} (h : tupA K a vs = true) (H : Hp) : SqT K H a vs := by
  unfold tupA at h
  split at h
  · rename_i c d its n sl q
    obtain ⟨h1, h2⟩ := He.ba h
    obtain ⟨h3, h4⟩ := He.ba h2
    exact .inr ⟨_, its, n, q, congrArg Value.type (of_decide_eq_true h1), rfl, of_decide_eq_true h3, He.relAll_ok h4⟩
  · cases h
section
variable {P : Program} {K : Fg} {h : Heap} {mg : PySem.Str → Option Value} {x f m name qual : PySem.Str} {st : Stmt} {C : Addr}
theorem gfun_of (X : K.In h) (G : h.Ns mainGlobals mg) (c : (He.Fa.glo x).ok K = true) (d : fnO K (He.ga K x) = fnV x x st [] ∧ bareB K (He.ga K x) x = true) : GFun K mg x st :=
  ⟨He.ga K x, (fun_of d).choose, He.glo_ok X G c, (fun_of d).choose_spec⟩
theorem gint_of (X : K.In h) (G : h.Ns mainGlobals mg) {i : Int} (c : (He.Fa.int x i).ok K = true) : GV mg x (.int i) := by
  obtain ⟨t, e⟩ := He.int_ok X G c
  exact ⟨_, e, t, rfl⟩
theorem gstr_of (X : K.In h) (G : h.Ns mainGlobals mg) {z : PySem.Str} (c : (He.Fa.str x z).ok K = true) : GV mg x (.str z) := by
  obtain ⟨t, e⟩ := He.str_ok X G c
  exact ⟨_, e, t, rfl⟩
theorem ccon_of (X : K.In h) (G : h.Ns mainGlobals mg) {v : V} (c : (He.Fa.glo x).ok K = true) (d : cconB K (He.ga K x) f v = true) : CCon K mg x f v := by
  unfold cconB at d
  obtain ⟨d1, d⟩ := He.ba d
  obtain ⟨d2, d3⟩ := He.ba d
  split at d3
  · rename_i u q
    exact ⟨He.ga K x, .type "type", u, He.glo_ok X G c, ⟨d1, eqO_ok d2⟩, ⟨q, He.relB_ok d3⟩⟩
  · cases d3
theorem noat_of {l : List PySem.Str} (d : noatB K C l = true) : ∀ f ∈ l, NoAttr K C f := fun f hf => eqO_ok (List.all_eq_true.mp d f hf)
/-! ### makers over super() -/
theorem sup_of {a D : Addr} {q : PySem.Str} (hF : P.main.file = FILE) (hT : (P.main.scope.names.lookup ("super" : PySem.Str)).isSome = false) (e : fnO K a = fnV "__init__" q st ["__class__"]) (c : supB K FILE a q D = true) :
    ∃ cda cc z, SupF P K q st D a cda cc z ∧ ∃ oc od osl, K.lookup a = some ⟨oc, od, .func z, osl⟩ := by
  obtain ⟨oc, od, cs, dV, kV, doc, pm, an, cdv, ct, osl, hc, lk⟩ := fnO_some e
  obtain ⟨⟨n, cc⟩, r, rfl, hn, hr⟩ := List.map_eq_cons_iff.mp hc
  obtain rfl : r = [] := List.map_eq_nil_iff.mp hr
  obtain rfl : n = "__class__" := hn
  unfold supB at c
  obtain ⟨c1, c2⟩ := He.ba c
  obtain ⟨c3, c4⟩ := He.ba c2
  rw [lk] at c1
  have c1 : supC0 K FILE q D cdv [(("__class__" : PySem.Str), cc)] = true := c1
  cases cdv with
  | ref cda =>
    obtain ⟨k1, k2⟩ := He.ba (show supC1 K FILE q D cda cc = true from c1)
    obtain ⟨k3, k4⟩ := He.ba k2
    refine ⟨cda, cc, _, ⟨⟨oc, od, dV, kV, doc, pm, an, ct, osl, rfl, lk⟩, k1, ?_, ?_, Option.isSome_iff_exists.mp c3, hT, eqO_ok c4⟩, oc, od, osl, lk⟩
    · split at k3
      · rename_i c d vs sl q1
        split at k3
        · rename_i g tk q2
          exact ⟨c, d, vs, sl, g, tk, q1, q2, by rw [← hF] at k3; exact k3⟩
        · cases k3
      · cases k3
    · split at k4
      · rename_i v0 d0 D' sl q1
        obtain rfl : D' = D := of_decide_eq_true k4
        exact ⟨v0, d0, sl, q1⟩
      · cases k4
  | _ => cases c1
theorem supc_of {D g : Addr} (c : supcB K C D g = true) : SupC K C D g := by
  obtain ⟨c1, c⟩ := He.ba c
  obtain ⟨c2, c⟩ := He.ba c
  obtain ⟨c3, c⟩ := He.ba c
  obtain ⟨c4, c5⟩ := He.ba c
  exact ⟨okB_ok c1, Option.isSome_iff_exists.mp c2, eqO_ok c3, of_decide_eq_true c4, c5⟩
theorem dfl2_of {a : Addr} {oc : Value} {od : Option Addr} {osl : Array (Option Value)} {z : FuncData} (lk : K.lookup a = some ⟨oc, od, .func z, osl⟩) (c : dfl2B K a = true) : ∃ e, DflV K z.defaults [.ref e, str ""] ∧ ∀ H, SqT K H e [] := by
  unfold dfl2B at c
  rw [lk] at c
  dsimp only at c
  split at c
  · rename_i t ht
    split at c
    · rename_i c0 d0 its n sl q
      split at c
      · rename_i e x tk hi
        obtain ⟨c1, c2⟩ := He.ba c
        refine ⟨e, .inr ⟨List.cons_ne_nil _ _, t, _, its.toList, n, ht, q, by simp, ?_⟩, tupA_ok c2⟩
        rw [hi]
        exact .cons rfl (.cons ⟨tk, by rw [of_decide_eq_true c1]⟩ .nil)
      · cases c
    · cases c
  · cases c
theorem minit_of {q : PySem.Str} {g : Addr} (hF : P.main.file = FILE) (hT : (P.main.scope.names.lookup ("super" : PySem.Str)).isSome = false) (e : fnO K (He.ma K C "__init__") = fnV "__init__" q st ["__class__"] ∧ True)
    (c : supB K FILE (He.ma K C "__init__") q C = true) (M : Mk K C (He.ma K C "__init__")) (s : supcB K C C g = true) (d : fnO K g = fnV "__init__" "Message.__init__" s_Message___init__ [] ∧ bareB K g "Message.__init__" = true) (l : dfl2B K (He.ma K C "__init__") = true) : MInit P K C q st := by
  obtain ⟨cda, cc, z, S, oc, od, osl, lk⟩ := sup_of hF hT e.1 c
  obtain ⟨z2, F2⟩ := fun_of d
  obtain ⟨e0, D0, E0⟩ := dfl2_of lk l
  exact ⟨_, cda, cc, g, e0, z, z2, S, M, supc_of s, F2, D0, E0⟩
theorem ifun_of {q : PySem.Str} (M : Mk K C (He.ma K C "__init__")) (d : fnO K (He.ma K C "__init__") = fnV "__init__" q st [] ∧ bareB K (He.ma K C "__init__") q = true) : IFun K C q st := by
  obtain ⟨z, F⟩ := fun_of d
  exact ⟨_, z, M, F⟩
theorem prop_of (c : propB K C f = true) : PropOf K C f (He.ma K C f) (gA K C f) := by
  unfold propB at c
  obtain ⟨c1, c⟩ := He.ba c
  obtain ⟨c2, c⟩ := He.ba c
  obtain ⟨c3, c4⟩ := He.ba c
  split at c4
  · rename_i g r q
    exact ⟨eqO_ok c1, eqO_ok c2, okB_ok c3, r, by rw [q, of_decide_eq_true c4]⟩
  · cases c4
theorem pfun_of {q : PySem.Str} (c : propB K C name = true) (d : fnO K (gA K C name) = fnV name q st [] ∧ bareB K (gA K C name) q = true) : PFun K C name q st := by
  obtain ⟨z, F⟩ := fun_of d
  exact ⟨_, _, z, prop_of c, F⟩
theorem mfun_of {q : PySem.Str} (M : Meth K C name (He.ma K C name)) (d : fnO K (He.ma K C name) = fnV name q st [] ∧ bareB K (He.ma K C name) q = true) : MFun K C name q st := by
  obtain ⟨z, F⟩ := fun_of d
  exact ⟨_, z, M, F⟩
theorem tyc_of (c : tycB K C = true) : PySem.W.findIn K (.ref C) "__class__" = some (some (.builtin "object.__class__")) ∧ PySem.W.specialIn K (.builtin "object.__class__") "__get__" = some (some (.builtin "getset_descriptor.__get__")) ∧
    PySem.W.takesIn K (.builtin "object.__class__") = some true ∧ PySem.W.mroIn K C (.type "object") = some true := by
  obtain ⟨c1, c⟩ := He.ba c
  obtain ⟨c2, c⟩ := He.ba c
  obtain ⟨c3, c4⟩ := He.ba c
  exact ⟨eqO_ok c1, eqO_ok c2, okB_ok c3, okB_ok c4⟩
/-! ### exceptions -/
theorem exf_of (X : K.In h) (G : h.Ns mainGlobals mg) (c : (He.Fa.glo x).ok K = true) (d : exfB K (He.ga K x) = true) : ExF K mg x (He.ga K x) := by
  obtain ⟨d1, d⟩ := He.ba d
  obtain ⟨d2, d⟩ := He.ba d
  obtain ⟨d3, d⟩ := He.ba d
  obtain ⟨d4, d⟩ := He.ba d
  obtain ⟨d5, d⟩ := He.ba d
  obtain ⟨d6, d⟩ := He.ba d
  obtain ⟨d7, d8⟩ := He.ba d
  obtain ⟨t1, t2, t3, t4⟩ := tyc_of d8
  exact ⟨He.glo_ok X G c, d1, okB_ok d2, of_decide_eq_true d3, okB_ok d4, eqO_ok d5, eqO_ok d6, okB_ok d2, d7, t1, t2, t3, t4⟩
theorem oex_obj (c : oexB K C = true) : ∃ nm q N bs bm sn sub ab col dd k0 k1 k2 k3 k5, K.lookup C = some (excClassObj nm q C N bs bm true sn sub ab col dd k0 k1 k2 k3 k5 "ValueError.__new__") ∧ PySem.HandSPX.refsVE bm = true := by
  unfold oexB at c
  split at c
  · rename_i t dd cd sl lk
    split at c
    · rename_i C' bm k0 k1 k2 k3 n k5 hm hs
      obtain ⟨c0, c⟩ := He.ba c
      obtain ⟨c1, c⟩ := He.ba c
      obtain ⟨c2, c⟩ := He.ba c
      obtain ⟨c3, c⟩ := He.ba c
      obtain ⟨c4, c5⟩ := He.ba c
      obtain rfl := of_decide_eq_true c0
      obtain rfl := of_decide_eq_true c1
      obtain rfl := of_decide_eq_true c2
      obtain ⟨nm, bs, mro, ns, qn, hd, sn, sub, ab, col, del⟩ := cd
      dsimp only at hm c3 c4
      obtain rfl : del = false := by simpa using c3
      subst hm c4
      obtain rfl : sl = #[k0, k1, k2, k3, some (.builtin "ValueError.__new__"), k5] := by
        obtain ⟨l⟩ := sl
        simp only at hs
        rw [hs]
      exact ⟨nm, qn, ns, bs, bm, sn, sub, ab, col, dd, k0, k1, k2, k3, k5, lk, c5⟩
    · cases c
  · cases c
theorem ivo_of (hF : P.main.file = FILE) (hT : (P.main.scope.names.lookup ("super" : PySem.Str)).isSome = false) (e : fnO K (He.ma K C "__init__") = fnV "__init__" "InvalidValue.__init__" s_InvalidValue___init__ ["__class__"] ∧ True)
    (c : supB K FILE (He.ma K C "__init__") "InvalidValue.__init__" C = true) (d : ivB K C = true) : ∃ cda cc z, IvO P K C (He.ma K C "__init__") cda cc z := by
  obtain ⟨cda, cc, z, S, oc, od, osl, lk⟩ := sup_of hF hT e.1 c
  unfold ivB at d
  obtain ⟨d1, d⟩ := He.ba d
  obtain ⟨d2, d⟩ := He.ba d
  obtain ⟨d3, d⟩ := He.ba d
  obtain ⟨d4, d⟩ := He.ba d
  obtain ⟨d5, d⟩ := He.ba d
  obtain ⟨d6, d⟩ := He.ba d
  obtain ⟨d7, d⟩ := He.ba d
  obtain ⟨d8, d⟩ := He.ba d
  obtain ⟨d9, d⟩ := He.ba d
  obtain ⟨d10, d⟩ := He.ba d
  obtain ⟨d11, d⟩ := He.ba d
  obtain ⟨d12, d13⟩ := He.ba d
  rw [lk] at d13
  exact ⟨cda, cc, z, ⟨S, ⟨oex_obj d1, eqO_ok d2, okB_ok d3, of_decide_eq_true d4, d5⟩, okB_ok d6, Option.isSome_iff_exists.mp d7, eqO_ok d8, okB_ok d9, eqO_ok d10⟩, eqO_ok d11, of_decide_eq_true d12, bareV_ok d13⟩
end
/-! ### the lists -/
abbrev adOf (K : Fg) : Ad := ⟨He.ga K "Request", He.ga K "Response", He.ga K "Draft", He.ga K "Reader"⟩
abbrev axOf (K : Fg) : Ax := ⟨He.ga K "HopError", He.ga K "InvalidValue", He.ga K "InvalidMessage", He.ga K "InvalidFraming", He.ga K "ReaderClosed"⟩
theorem ne_of {K : Fg} (c : neB K = true) : ∀ b : Bool, (adOf K).cls b ≠ (adOf K).rdr ∧ (adOf K).cls b ≠ (adOf K).dft := by
  obtain ⟨c1, c⟩ := He.ba c
  obtain ⟨c2, c⟩ := He.ba c
  obtain ⟨c3, c4⟩ := He.ba c
  intro b
  cases b with
  | false => exact ⟨of_decide_eq_true c1, of_decide_eq_true c3⟩
  | true => exact ⟨of_decide_eq_true c2, of_decide_eq_true c4⟩
/-! ### what is told -/
section
variable {K : Fg}
theorem SaysK.fact (c : SaysK K) (i : Nat) {b : Fg → Bool} (h : hfs[i]? = some b) : b K = true := by
  have c1 := (He.ba (show ((hfs.all fun b => b K) && hds.all fun d => d.good K) = true from congrArg (fun z : AlK => z.1) c)).1
  exact List.all_eq_true.mp c1 b (List.mem_of_getElem? h)
theorem SaysK.def_ (c : SaysK K) (i : Nat) {d : DA} (h : hds[i]? = some d) : fnO K (d.pl K) = fnV d.name d.qual d.st d.cl ∧ (match d.cl with | [] => bareB K (d.pl K) d.qual = true | _ => True) := by
  have c2 := (He.ba (show ((hfs.all fun b => b K) && hds.all fun d => d.good K) = true from congrArg (fun z : AlK => z.1) c)).2
  have e : hds.map (fun d => fnO K (d.pl K)) = hds.map (fun d => fnV d.name d.qual d.st d.cl) := congrArg (fun z : AlK => z.2) c
  have e2 : (hds.map fun d => fnO K (d.pl K))[i]? = (hds.map fun d => fnV d.name d.qual d.st d.cl)[i]? := by rw [e]
  rw [List.getElem?_map, List.getElem?_map, h] at e2
  refine ⟨Option.some.inj e2, ?_⟩
  have g := List.all_eq_true.mp c2 d (List.mem_of_getElem? h)
  obtain ⟨p, n, q, s, cl⟩ := d
  cases cl with
  | nil => exact g
  | cons a r => exact True.intro
variable {P : Program} {h : Heap} {mg : PySem.Str → Option Value}
theorem txt_of (X : K.In h) (G : h.Ns mainGlobals mg) (c : SaysK K) : Txt K mg where
  is_plain_sign := gfun_of X G (c.fact 0 rfl) (c.def_ 0 rfl)
  is_plain := gfun_of X G (c.fact 1 rfl) (c.def_ 1 rfl)
  consists_of := gfun_of X G (c.fact 2 rfl) (c.def_ 2 rfl)
  is_path := gfun_of X G (c.fact 3 rfl) (c.def_ 3 rfl)
  is_field_name := gfun_of X G (c.fact 4 rfl) (c.def_ 4 rfl)
  is_value := gfun_of X G (c.fact 5 rfl) (c.def_ 5 rfl)
  read_number := gfun_of X G (c.fact 6 rfl) (c.def_ 6 rfl)
  is_body_text := gfun_of X G (c.fact 7 rfl) (c.def_ 7 rfl)
  parse_start := gfun_of X G (c.fact 8 rfl) (c.def_ 8 rfl)
  empty_message := gfun_of X G (c.fact 9 rfl) (c.def_ 9 rfl)
  parse_field := gfun_of X G (c.fact 10 rfl) (c.def_ 10 rfl)
  _law_bag := gfun_of X G (c.fact 11 rfl) (c.def_ 11 rfl)
  _law_draw := gfun_of X G (c.fact 12 rfl) (c.def_ 12 rfl)
  _law_pick := gfun_of X G (c.fact 13 rfl) (c.def_ 13 rfl)
  _law_most := gfun_of X G (c.fact 14 rfl) (c.def_ 14 rfl)
  _law_word := gfun_of X G (c.fact 15 rfl) (c.def_ 15 rfl)
  _law_letters := gfun_of X G (c.fact 16 rfl) (c.def_ 16 rfl)
  _law_signs := gfun_of X G (c.fact 17 rfl) (c.def_ 17 rfl)
  _law_all_in := gfun_of X G (c.fact 18 rfl) (c.def_ 18 rfl)
  _law_is_path := gfun_of X G (c.fact 19 rfl) (c.def_ 19 rfl)
  _law_is_name := gfun_of X G (c.fact 20 rfl) (c.def_ 20 rfl)
  _law_is_value := gfun_of X G (c.fact 21 rfl) (c.def_ 21 rfl)
  _law_digits := gfun_of X G (c.fact 22 rfl) (c.def_ 22 rfl)
  _law_statuses := gfun_of X G (c.fact 23 rfl) (c.def_ 23 rfl)
  _law_may := gfun_of X G (c.fact 24 rfl) (c.def_ 24 rfl)
  _law_name := gfun_of X G (c.fact 25 rfl) (c.def_ 25 rfl)
  _law_value := gfun_of X G (c.fact 26 rfl) (c.def_ 26 rfl)
  _law_names := gfun_of X G (c.fact 27 rfl) (c.def_ 27 rfl)
  _law_body := gfun_of X G (c.fact 28 rfl) (c.def_ 28 rfl)
  _law_row := gfun_of X G (c.fact 29 rfl) (c.def_ 29 rfl)
  _law_same := gfun_of X G (c.fact 30 rfl) (c.def_ 30 rfl)
  _law_all_same := gfun_of X G (c.fact 31 rfl) (c.def_ 31 rfl)
  _law_loose_line := gfun_of X G (c.fact 32 rfl) (c.def_ 32 rfl)
  _law_loose_chunks := gfun_of X G (c.fact 33 rfl) (c.def_ 33 rfl)
  _law_loose := gfun_of X G (c.fact 34 rfl) (c.def_ 34 rfl)
  _law_stream := gfun_of X G (c.fact 35 rfl) (c.def_ 35 rfl)
  _law_bad_sign := gfun_of X G (c.fact 36 rfl) (c.def_ 36 rfl)
  _law_line := gfun_of X G (c.fact 37 rfl) (c.def_ 37 rfl)
  _law_starts := gfun_of X G (c.fact 38 rfl) (c.def_ 38 rfl)
  _law_line_fault := gfun_of X G (c.fact 39 rfl) (c.def_ 39 rfl)
  _law_head := gfun_of X G (c.fact 40 rfl) (c.def_ 40 rfl)
  _law_chunked := gfun_of X G (c.fact 41 rfl) (c.def_ 41 rfl)
  _law_body_read := gfun_of X G (c.fact 42 rfl) (c.def_ 42 rfl)
  _law_one := gfun_of X G (c.fact 43 rfl) (c.def_ 43 rfl)
  _law_reading := gfun_of X G (c.fact 44 rfl) (c.def_ 44 rfl)
  _law_ended := gfun_of X G (c.fact 45 rfl) (c.def_ 45 rfl)
  _law_lines := gfun_of X G (c.fact 46 rfl) (c.def_ 46 rfl)
  _law_spoilt := gfun_of X G (c.fact 47 rfl) (c.def_ 47 rfl)
  _law_pieces := gfun_of X G (c.fact 48 rfl) (c.def_ 48 rfl)
  _law_stands := gfun_of X G (c.fact 49 rfl) (c.def_ 49 rfl)
  _law_fed := gfun_of X G (c.fact 50 rfl) (c.def_ 50 rfl)
  _law_feed_refuses := gfun_of X G (c.fact 51 rfl) (c.def_ 51 rfl)
  _law_finish_refuses := gfun_of X G (c.fact 52 rfl) (c.def_ 52 rfl)
  _law_finished := gfun_of X G (c.fact 53 rfl) (c.def_ 53 rfl)
  _law_side_refused := gfun_of X G (c.fact 54 rfl) (c.def_ 54 rfl)
  law := gfun_of X G (c.fact 55 rfl) (c.def_ 55 rfl)
  MOST_DIGITS := gint_of X G (c.fact 56 rfl)
  MOST_NAME := gint_of X G (c.fact 57 rfl)
  MOST_PATH := gint_of X G (c.fact 58 rfl)
  MOST_VALUE := gint_of X G (c.fact 59 rfl)
  MOST_LINE := gint_of X G (c.fact 60 rfl)
  PERCENT_CODE := gint_of X G (c.fact 61 rfl)
  DIGITS := gstr_of X G (c.fact 62 rfl)
  LETTERS := gstr_of X G (c.fact 63 rfl)
  NAME_SIGNS := gstr_of X G (c.fact 64 rfl)
  PATH_SIGNS := gstr_of X G (c.fact 65 rfl)
  LENGTH_NAME := gstr_of X G (c.fact 66 rfl)
  CHUNKS_VALUE := gstr_of X G (c.fact 67 rfl)
  METHODS := ⟨ca K (He.ga K "Request") "METHODS", ccon_of X G (c.fact 68 rfl) (c.fact 69 rfl), tupA_ok (c.fact 70 rfl)⟩
  STATUSES := ⟨ca K (He.ga K "Response") "STATUSES", ccon_of X G (c.fact 71 rfl) (c.fact 72 rfl), tupA_ok (c.fact 73 rfl)⟩
  MOST_FIELDS := ccon_of X G (c.fact 74 rfl) (c.fact 75 rfl)
  MOST_BODY := ccon_of X G (c.fact 74 rfl) (c.fact 76 rfl)
  SIDES := ⟨(He.ga K "SIDES"), ⟨_, He.glo_ok X G (c.fact 77 rfl), rfl⟩, tupA_ok (c.fact 78 rfl)⟩
  len := He.free_ok X G (c.fact 79 rfl)
  int := He.free_ok X G (c.fact 80 rfl)
  str := He.free_ok X G (c.fact 81 rfl)
  bool := He.free_ok X G (c.fact 82 rfl)
  list := He.free_ok X G (c.fact 83 rfl)
  all := He.free_ok X G (c.fact 84 rfl)
  sum := He.free_ok X G (c.fact 85 rfl)
  abs := He.free_ok X G (c.fact 86 rfl)
  max := He.free_ok X G (c.fact 87 rfl)
  min := He.free_ok X G (c.fact 88 rfl)
  ord := He.free_ok X G (c.fact 89 rfl)
  range := He.free_ok X G (c.fact 90 rfl)
  isinstance := He.free_ok X G (c.fact 91 rfl)
  super := He.free_ok X G (c.fact 92 rfl)
theorem obs_of (hF : P.main.file = FILE) (hT : (P.main.scope.names.lookup ("super" : PySem.Str)).isSome = false) (X : K.In h) (G : h.Ns mainGlobals mg) (c : SaysK K) : Obs P K mg (adOf K) where
  rq := He.glo_ok X G (c.fact 68 rfl)
  rs := He.glo_ok X G (c.fact 71 rfl)
  df := He.glo_ok X G (c.fact 93 rfl)
  rd := He.glo_ok X G (c.fact 94 rfl)
  rqC := He.cls_ok (c.fact 95 rfl)
  rsC := He.cls_ok (c.fact 96 rfl)
  dfC := He.cls_ok (c.fact 97 rfl)
  rdC := He.cls_ok (c.fact 98 rfl)
  rqN := noat_of (c.fact 99 rfl)
  rsN := noat_of (c.fact 100 rfl)
  dfN := noat_of (c.fact 101 rfl)
  rdN := noat_of (c.fact 102 rfl)
  rqI := minit_of hF hT (c.def_ 57 rfl) (c.fact 103 rfl) (He.mkr_ok (c.fact 104 rfl)) (c.fact 105 rfl) (c.def_ 56 rfl) (c.fact 106 rfl)
  rsI := minit_of hF hT (c.def_ 58 rfl) (c.fact 107 rfl) (He.mkr_ok (c.fact 108 rfl)) (c.fact 109 rfl) (c.def_ 56 rfl) (c.fact 110 rfl)
  dfI := ifun_of (He.mkr_ok (c.fact 111 rfl)) (c.def_ 59 rfl)
  rdI := ifun_of (He.mkr_ok (c.fact 112 rfl)) (c.def_ 60 rfl)
  rqS := pfun_of (c.fact 113 rfl) (c.def_ 61 rfl)
  rsS := pfun_of (c.fact 114 rfl) (c.def_ 62 rfl)
  rqM := pfun_of (c.fact 115 rfl) (c.def_ 63 rfl)
  rsM := pfun_of (c.fact 116 rfl) (c.def_ 64 rfl)
  rdS := pfun_of (c.fact 117 rfl) (c.def_ 65 rfl)
  rdF := pfun_of (c.fact 118 rfl) (c.def_ 66 rfl)
  rdD := pfun_of (c.fact 119 rfl) (c.def_ 67 rfl)
  Request_start_line := mfun_of (He.meth_ok (c.fact 120 rfl)) (c.def_ 68 rfl)
  Request_body_allowed := mfun_of (He.meth_ok (c.fact 121 rfl)) (c.def_ 69 rfl)
  Request_remade := mfun_of (He.meth_ok (c.fact 122 rfl)) (c.def_ 70 rfl)
  Response_start_line := mfun_of (He.meth_ok (c.fact 123 rfl)) (c.def_ 71 rfl)
  Response_body_allowed := mfun_of (He.meth_ok (c.fact 124 rfl)) (c.def_ 72 rfl)
  Response_remade := mfun_of (He.meth_ok (c.fact 125 rfl)) (c.def_ 73 rfl)
  Draft_finished_message := mfun_of (He.meth_ok (c.fact 126 rfl)) (c.def_ 74 rfl)
  Reader_feed := mfun_of (He.meth_ok (c.fact 127 rfl)) (c.def_ 75 rfl)
  Reader_finish := mfun_of (He.meth_ok (c.fact 128 rfl)) (c.def_ 76 rfl)
  Reader_break_off := mfun_of (He.meth_ok (c.fact 129 rfl)) (c.def_ 77 rfl)
  Reader_read_sign := mfun_of (He.meth_ok (c.fact 130 rfl)) (c.def_ 78 rfl)
  Reader_read_line := mfun_of (He.meth_ok (c.fact 131 rfl)) (c.def_ 79 rfl)
  Reader_read_start_line := mfun_of (He.meth_ok (c.fact 132 rfl)) (c.def_ 80 rfl)
  Reader_read_field_line := mfun_of (He.meth_ok (c.fact 133 rfl)) (c.def_ 81 rfl)
  Reader_read_framing_line := mfun_of (He.meth_ok (c.fact 134 rfl)) (c.def_ 82 rfl)
  Reader_begin_body := mfun_of (He.meth_ok (c.fact 135 rfl)) (c.def_ 83 rfl)
  Reader_read_body_sign := mfun_of (He.meth_ok (c.fact 136 rfl)) (c.def_ 84 rfl)
  Reader_read_chunk_end := mfun_of (He.meth_ok (c.fact 137 rfl)) (c.def_ 85 rfl)
  Reader_read_size_line := mfun_of (He.meth_ok (c.fact 138 rfl)) (c.def_ 86 rfl)
  Reader_complete_message := mfun_of (He.meth_ok (c.fact 139 rfl)) (c.def_ 87 rfl)
  tyC := fun b => match b with | false => tyc_of (c.fact 140 rfl) | true => tyc_of (c.fact 141 rfl)
  isi := fun b d => match b, d with | false, false => okB_ok (c.fact 142 rfl) | false, true => okB_ok (c.fact 143 rfl) | true, false => okB_ok (c.fact 144 rfl) | true, true => okB_ok (c.fact 145 rfl)
theorem exf_all (X : K.In h) (G : h.Ns mainGlobals mg) (c : SaysK K) : Exf K mg (axOf K) where
  rc := exf_of X G (c.fact 146 rfl) (c.fact 147 rfl)
  rcX := (He.exc_ok (c.fact 148 rfl)).1
  iv := exf_of X G (c.fact 149 rfl) (c.fact 150 rfl)
  im := He.glo_ok X G (c.fact 151 rfl)
  fr := He.glo_ok X G (c.fact 152 rfl)
  VE := He.free_ok X G (c.fact 153 rfl)
  rcV := okB_ok (c.fact 154 rfl)
  rcO := okB_ok (c.fact 155 rfl)
  ivO := okB_ok (c.fact 156 rfl)
theorem iv_all (hF : P.main.file = FILE) (hT : (P.main.scope.names.lookup ("super" : PySem.Str)).isSome = false) (c : SaysK K) : ∃ cda cc z, IvO P K (axOf K).iv (He.ma K (He.ga K "InvalidValue") "__init__") cda cc z := ivo_of hF hT (c.def_ 88 rfl) (c.fact 157 rfl) (c.fact 158 rfl)
theorem ne_all (c : SaysK K) : ∀ b : Bool, (adOf K).cls b ≠ (adOf K).rdr ∧ (adOf K).cls b ≠ (adOf K).dft := ne_of (c.fact 159 rfl)
end
end K6

set_option Elab.async false
set_option linter.all false
set_option maxRecDepth 100000
set_option maxHeartbeats 4000000
/-! HD3: the end. -/
namespace K6H
open PySem PySem.Spec PyProof.Rows L2 K6
abbrev PRG : Program := PySem.Challenge.pw_hopkeep_k06_whole_cutting_is_free
theorem hFile : PRG.main.file = FILE := rfl
theorem hTop : (PRG.main.scope.names.lookup ("super" : PySem.Str)).isSome = false := by decide +kernel
theorem facts {w : World} {K : PySem.W.Frag} {h : Heap} {mg : PySem.Str → Option Value} {f : Addr} (X : K.In h) (G : h.Ns mainGlobals mg) (hfa : mg ("law" : PySem.Str) = some (.ref f)) (c : SaysK K) :
    ∃ fd : FuncData, (∀ (s : Shared) (v : Value), BindsTo s fd ⟨[v], []⟩ [("_law_script", v)]) ∧ ∀ base : Heap, K.In base → base.Ns mainGlobals mg → FnOk PRG w K mg base CX0 16 f fd ["_law_script"] (sp_law K) := by
  have T : Txt K mg := txt_of X G c
  have O : Obs PRG K mg (adOf K) := obs_of hFile hTop X G c
  have Y : Exf K mg (axOf K) := exf_all X G c
  obtain ⟨cda, cc, z, I⟩ := iv_all (P := PRG) hFile hTop c
  obtain ⟨g, fd, hg, F⟩ := T.law
  have e := hfa.symm.trans hg
  cases e
  obtain ⟨oc, od, kV, doc, pm, an, cdv, ct, osl, rfl, lk, hcd⟩ := F.ex
  exact ⟨_, fun s v => .of_eq rfl, fun base _ _ => ok_law F T O Y (ne_all c) (ok__law_side_refused T O Y I)⟩
end K6H
open PySem PySem.W PySem.Calls PyProof.Rows
theorem PySem.Challenge.cw_hopkeep_k06_whole_cutting_is_free_holds : PySem.Challenge.rw_hopkeep_k06_whole_cutting_is_free.Holds := by
  w_on; o_law
  refine HandSHeadRun.head_any (r := OpenLaw.row PySem.Challenge.rw_hopkeep_k06_whole_cutting_is_free) (q := view (OpenLaw.row PySem.Challenge.rw_hopkeep_k06_whole_cutting_is_free).prog [85]) (H := K6H.hk) (ob := K6H.ob) (M := 20000) (loose := K6H.loose) (d := HandSHeadRun.topDef (OpenLaw.row PySem.Challenge.rw_hopkeep_k06_whole_cutting_is_free).prog 85) (kwd := []) K6H.ob_eq
    (by kernel_rfl) (fun s => by kernel_rfl) K6H.hrun (by kernel_rfl) (by kernel_rfl) (by kernel_rfl) (by rfl) (by first | assumption | decide +kernel) (by decide +kernel) ⟨rfl, rfl, rfl, rfl, rfl, by decide +kernel⟩ ?hw ?hc
  case hw => w_witness2
  case hc =>
    refine L2.walk_ofE (l := PySem.Challenge.rw_hopkeep_k06_whole_cutting_is_free) (n := 63) (k := 16) (x := "_law_script") (CX := L2.CX0) rfl (by decide) (by kernel_rfl) ⟨rfl, by decide, by decide⟩ ?F (fun _ _ _ _ z => z)
    intro w mg fa h Y G hmg0
    obtain ⟨K, KX, c⟩ := Y
    have hmg : mg ("law" : PySem.Str) = some (.ref fa) := by
      have e : (HandSHeadRun.topDef (OpenLaw.row PySem.Challenge.rw_hopkeep_k06_whole_cutting_is_free).prog 85).name = ("law" : PySem.Str) := by kernel_rfl
      rw [← e]
      exact hmg0
    obtain ⟨fd, hb, hF⟩ := K6H.facts (w := w) KX G hmg c
    exact ⟨K, fd, K6.sp_law K, KX, hb, fun H a ns hl _ hS => ⟨a, ns, rfl, hS, Nat.le_trans hl (by decide), fun _ => rfl⟩, hF⟩

