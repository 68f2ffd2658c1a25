import PyProof.Rows.All
import Wide.All
import OpenK.AllK
import Wide.FinOn
import KE.KStateDown
import Lean
import HandS.ForMost
import HandS.ForExc
import HandS.Flow
import HandS.IsInst
import HandS.CallSlots
import HandS.CallRecv
import HandS.Defaults
import HandS.Codes
import HandS.TupAny
import HandS.WideBits
import HandS.Hot
import HandS.HotCalls
import HandS.ExcInitHot
import HandS.ExcField
import HandS.SuiteRaise
import HandS.RevRange
import HandS.DictTup
import HandS.Conv
import HandS.Deep
import HandS.Walk
import HandS.More
import KE.KExcSuper
import HandS.Head0
import HandS.Head1
import HandS.Head2
import HandS.HeadEnd
import HandS.HeadHook1
import HandS.HeadHook2
import PySem.Challenge.RW_ownanswer_k25_blocks_read
set_option Elab.async false
set_option linter.all false
set_option maxRecDepth 100000
set_option maxHeartbeats 0
/-! BrTop: the text by places -/
namespace BR
open PySem PySem.Spec PyProof.Rows L2
def top (i : Nat) : Stmt := PySem.Challenge.pw_ownanswer_k25_blocks_read.main.body.getD i (.Pass ⟨0, 0, 0, 0⟩)
abbrev sHfI : Stmt := inClass (top 2) 0
abbrev sNamedBelow : Stmt := top 11
abbrev sOctetOfRank : Stmt := top 12
abbrev sOctetOf : Stmt := top 13
abbrev sDecoded : Stmt := top 14
abbrev sToOctets : Stmt := top 16
abbrev sFixedRow : Stmt := top 19
abbrev sRowSize : Stmt := top 22
abbrev sMtI : Stmt := inClass (top 23) 0
abbrev sMtRoom : Stmt := inClass (top 23) 1
abbrev sMtRows : Stmt := inClass (top 23) 3
abbrev sMtShrink : Stmt := inClass (top 23) 4
abbrev sMtResize : Stmt := inClass (top 23) 5
abbrev sMtAdd : Stmt := inClass (top 23) 6
abbrev sMtRow : Stmt := inClass (top 23) 7
abbrev sReadInt : Stmt := top 27
abbrev sReadString : Stmt := top 29
abbrev sUnI : Stmt := inClass (top 30) 0
abbrev sUnTable : Stmt := inClass (top 30) 1
abbrev sUnRooms : Stmt := inClass (top 30) 3
abbrev sUnPair : Stmt := inClass (top 30) 4
abbrev sUnKnown : Stmt := inClass (top 30) 5
abbrev sUnpack : Stmt := inClass (top 30) 6
abbrev sDraw : Stmt := top 32
abbrev sTake : Stmt := top 33
abbrev sInt : Stmt := top 34
abbrev sOrder : Stmt := top 35
abbrev sWords : Stmt := top 36
abbrev sCoded : Stmt := top 37
abbrev sLDecoded : Stmt := top 38
abbrev sLFixed : Stmt := top 39
abbrev sOctets : Stmt := top 40
abbrev sPair : Stmt := top 41
abbrev sTotal : Stmt := top 42
abbrev sFit : Stmt := top 43
abbrev sAdd : Stmt := top 44
abbrev sRead : Stmt := top 46
abbrev sLReadString : Stmt := top 47
abbrev sReadPair : Stmt := top 48
abbrev sLUnpack : Stmt := top 49
abbrev sWide : Stmt := top 50
abbrev sString : Stmt := top 51
abbrev sPart : Stmt := top 52
abbrev sBlock : Stmt := top 53
abbrev sLaw : Stmt := top 54
/-- a def of the text behind the top -/
abbrev FnP (K : PySem.W.Frag) (x q : Str) (st : Stmt) (f : Addr) (fd : FuncData) : Prop := FunD K x q (defArgs st) (defBody st) (defScope st) [] [] f fd
end BR
/-! BrMath: the mirror of what a block says, and its arithmetic; plain Lean. -/
namespace BR
inductive Wd where
  | short | number | row | room | code
  deriving DecidableEq
abbrev Ft := Wd × Nat
abbrev Pr := List Int × List Int
/-! ### integers -/
/-- the k-th further digit, in its place -/
def dg (o : Int) (k : Nat) : Int := o % 2 ^ 7 * 2 ^ ((7 : Int) * (0 + (k : Int))).toNat
theorem dg_nn (o : Int) (k : Nat) : 0 ≤ dg o k := Int.mul_nonneg (Int.emod_nonneg _ (by decide)) (Int.pow_nonneg (by decide))
def rdGo (bs : List Int) (p : Nat) : Nat → Nat → Int → Except Ft (Int × Nat)
  | 0, _, _ => .error (.number, p)
  | f + 1, k, v => match bs[p + 1 + k]? with
    | none => .error (.short, bs.length)
    | some o => if v + dg o k > 2147483647 then .error (.number, p)
      else if o < 128 then .ok (v + dg o k, p + 2 + k) else rdGo bs p f (k + 1) (v + dg o k)
def rdInt (bs : List Int) (p n : Nat) : Except Ft (Int × Nat) := match bs[p]? with
  | none => .error (.short, bs.length)
  | some o => if o % 2 ^ n < 2 ^ n - 1 then .ok (o % 2 ^ n, p + 1) else rdGo bs p 5 0 (o % 2 ^ n)
theorem rdGo_ok {bs : List Int} {p : Nat} : ∀ {f k : Nat} {v w : Int} {q : Nat}, 0 ≤ v → rdGo bs p f k v = .ok (w, q) → 0 ≤ w ∧ p < q ∧ q ≤ bs.length := by
  intro f
  induction f with
  | zero => intro k v w q _ h; cases h
  | succ f ih =>
    intro k v w q hv h
    unfold rdGo at h
    cases e : bs[p + 1 + k]? with
    | none => rw [e] at h; exact nomatch h
    | some o =>
      rw [e] at h
      have hlt : p + 1 + k < bs.length := (List.getElem?_eq_some_iff.mp e).1
      have h0 : 0 ≤ v + dg o k := Int.add_nonneg hv (dg_nn o k)
      dsimp only at h
      by_cases c : v + dg o k > 2147483647
      · rw [if_pos c] at h; cases h
      · rw [if_neg c] at h
        by_cases c2 : o < 128
        · rw [if_pos c2] at h
          cases h
          exact ⟨h0, by omega, by omega⟩
        · rw [if_neg c2] at h
          exact ih h0 h
theorem rdInt_ok {bs : List Int} {p n : Nat} {w : Int} {q : Nat} (h : rdInt bs p n = .ok (w, q)) : 0 ≤ w ∧ p < q ∧ q ≤ bs.length := by
  unfold rdInt at h
  cases e : bs[p]? with
  | none => rw [e] at h; exact nomatch h
  | some o =>
    rw [e] at h
    have hlt : p < bs.length := (List.getElem?_eq_some_iff.mp e).1
    have h2 : (2 : Int) ^ n ≠ 0 := by
      have : (0 : Int) < 2 ^ n := Int.pow_pos (by decide)
      omega
    have h0 : 0 ≤ o % 2 ^ n := Int.emod_nonneg _ h2
    dsimp only at h
    by_cases c : o % 2 ^ n < 2 ^ n - 1
    · rw [if_pos c] at h
      cases h
      exact ⟨h0, by omega, by omega⟩
    · rw [if_neg c] at h
      exact rdGo_ok h0 h
/-! ### the code -/
def marks : List Int := [45, 46, 47, 58, 61, 95, 32, 44, 59]
def named : List Int := (List.range 26).map (fun (k : Nat) => 97 + (k : Int)) ++ (List.range 10).map (fun (k : Nat) => 48 + (k : Int)) ++ marks ++ (List.range 26).map (fun (k : Nat) => 65 + (k : Int))
def order : List Int := named ++ ((List.range 257).map (fun (k : Nat) => (k : Int))).filter fun o => !named.contains o
def rankOct (r : Int) : Int := order.getD r.toNat 0
def classes : List (Nat × Int × Int × Int) := [(5, 0, 0, 24), (6, 48, 24, 8), (8, 224, 32, 31), (15, 32640, 63, 62), (16, 65404, 125, 132)]
def lookIn : List (Nat × Int × Int × Int) → Int → Nat → Int
  | [], _, _ => -1
  | c :: r, n, l => if c.1 = l ∧ 0 ≤ n - c.2.1 ∧ n - c.2.1 < c.2.2.2 then rankOct (c.2.2.1 + n - c.2.1) else lookIn r n l
def look (n : Int) (l : Nat) : Int := lookIn classes n l
def lens : List Int := List.replicate 24 5 ++ List.replicate 8 6 ++ List.replicate 31 8 ++ List.replicate 62 15 ++ List.replicate 132 16
structure WS where
  ws : List (Int × Int)
  num : Int
  last : Int
def wordStep (s : WS) (r : Nat) : WS :=
  let l := lens.getD r 0
  let n := s.num * 2 ^ (l - s.last).toNat
  ⟨s.ws.set (order.getD r 0).toNat (n, l), n + 1, l⟩
def wordRun : Nat → WS
  | 0 => ⟨List.replicate 257 (0, 0), 0, 5⟩
  | r + 1 => wordStep (wordRun r) r
def wordsL : List (Int × Int) := (wordRun 257).ws
structure DS where
  found : List Int
  num : Int
  len : Nat
def bitStep (s : DS) (b : Int) : Option DS :=
  if look (s.num * 2 + b) (s.len + 1) = 256 then none
  else if 0 ≤ look (s.num * 2 + b) (s.len + 1) then some ⟨s.found ++ [look (s.num * 2 + b) (s.len + 1)], 0, 0⟩
  else some ⟨s.found, s.num * 2 + b, s.len + 1⟩
def bitOf (o : Int) (k : Nat) : Int := o / 2 ^ ((7 : Int) + (k : Int) * -1).toNat % 2 ^ 1
def octGo (o : Int) : Nat → Nat → DS → Option DS
  | 0, _, s => some s
  | f + 1, k, s => match bitStep s (bitOf o k) with
    | none => none
    | some t => octGo o f (k + 1) t
def runO : List Int → DS → Option DS
  | [], s => some s
  | o :: r, s => match octGo o 8 0 s with
    | none => none
    | some t => runO r t
def endD (s : DS) : Option (List Int) := if s.len > 7 ∨ s.num ≠ 2 ^ s.len - 1 then none else some s.found
def decode (bs : List Int) : Option (List Int) := match runO bs ⟨[], 0, 0⟩ with
  | none => none
  | some s => endD s
/-! ### strings -/
def rdStr (bs : List Int) (p : Nat) : Except Ft (List Int × Nat) := match rdInt bs p 7 with
  | .error e => .error e
  | .ok (n, q) => if q + n.toNat > bs.length then .error (.short, bs.length)
    else if bs.getD p 0 ≥ 128 then match decode ((bs.drop q).take n.toNat) with
      | none => .error (.code, p)
      | some r => .ok (r, q + n.toNat)
    else .ok ((bs.drop q).take n.toNat, q + n.toNat)
theorem rdStr_ok {bs : List Int} {p : Nat} {r : List Int} {q : Nat} (h : rdStr bs p = .ok (r, q)) : p < q ∧ q ≤ bs.length := by
  unfold rdStr at h
  cases e : rdInt bs p 7 with
  | error x => rw [e] at h; cases h
  | ok z =>
    obtain ⟨n, q'⟩ := z
    rw [e] at h
    obtain ⟨h0, h1, h2⟩ := rdInt_ok e
    dsimp only at h
    by_cases c : q' + n.toNat > bs.length
    · rw [if_pos c] at h; cases h
    · rw [if_neg c] at h
      by_cases c2 : bs.getD p 0 ≥ 128
      · rw [if_pos c2] at h
        cases d : decode ((bs.drop q').take n.toNat) with
        | none => rw [d] at h; cases h
        | some y => rw [d] at h; cases h; omega
      · rw [if_neg c2] at h; cases h; omega
/-! ### the table -/
def size (p : Pr) : Int := (p.1.length : Int) + (p.2.length : Int) + 32
def total (l : List Pr) : Int := (l.map size).sum
theorem size_pos (p : Pr) : 32 ≤ size p := by unfold size; omega
theorem total_nn : ∀ l : List Pr, 0 ≤ total l
  | [] => Int.le_refl _
  | p :: l => by
    have := total_nn l
    have := size_pos p
    unfold total at *
    rw [List.map_cons]; rw [List.sum_cons]
    omega
def fitN (l : List Pr) (room : Int) : Nat → Nat
  | 0 => 0
  | c + 1 => if total (l.take (c + 1)) > room then fitN l room c else c + 1
def fit (l : List Pr) (room : Int) : List Pr := l.take (fitN l room l.length)
theorem fitN_le (l : List Pr) (room : Int) : ∀ c, fitN l room c ≤ c
  | 0 => Nat.le_refl _
  | c + 1 => by
    unfold fitN
    split
    · exact Nat.le_succ_of_le (fitN_le l room c)
    · exact Nat.le_refl _
theorem fitN_stop {l : List Pr} {room : Int} {c : Nat} (h : ¬ total (l.take c) > room) : fitN l room c = c := by
  cases c with
  | zero => rfl
  | succ c => unfold fitN; rw [if_neg h]
theorem fitN_neg {l : List Pr} {room : Int} (h : room < 0) : ∀ c, fitN l room c = 0
  | 0 => rfl
  | c + 1 => by
    unfold fitN
    have := total_nn (l.take (c + 1))
    rw [if_pos (by omega)]
    exact fitN_neg h c
def add (l : List Pr) (room : Int) (p : Pr) : List Pr := if size p ≤ room then p :: fit l (room - size p) else []
theorem add_big {l : List Pr} {room : Int} {p : Pr} (h : ¬ size p ≤ room) : fit l (room - size p) = [] := by
  unfold fit
  rw [fitN_neg (by omega)]
  rfl
def octS (s : String) : List Int := s.toList.map fun c => (c.toNat : Int)
def fixedL : List Pr := [(":method", "GET"), (":method", "PUT"), (":method", "POST"), (":path", "/"), (":scheme", "http"), (":authority", ""), (":status", "200"), (":status", "304"), (":status", "404"), ("accept", ""),
  ("accept-language", ""), ("age", ""), ("cache-control", ""), ("content-length", ""), ("content-type", ""), ("date", ""), ("etag", ""), ("host", ""), ("if-none-match", ""), ("last-modified", ""), ("location", ""), ("range", ""), ("vary", "")].map fun p => (octS p.1, octS p.2)
theorem fixed_len : fixedL.length = 23 := by decide +kernel
/-! ### parts, blocks -/
structure Tb where
  kept : List Pr
  room : Int
def bitsOf (o : Int) : Nat := if o ≥ 128 then 7 else if o ≥ 64 then 6 else 4
/-- the row with a number -/
def rowAt (t : Tb) (n : Int) : Option Pr := if n ≤ 0 then none else (fixedL ++ t.kept)[n.toNat - 1]?
/-- the pair of a part, the index behind it, the table -/
def rdPair (t : Tb) (bs : List Int) (p : Nat) : Except Ft (Pr × Nat × Tb) :=
  let o := bs.getD p 0
  match rdInt bs p (bitsOf o) with
  | .error e => .error e
  | .ok (n, q) =>
    if o ≥ 128 then match rowAt t n with
      | none => .error (.row, p)
      | some r => .ok (r, q, t)
    else
      match (if n = 0 then rdStr bs q else match rowAt t n with
        | none => .error (.row, p)
        | some r => .ok (r.1, q)) with
      | .error e => .error e
      | .ok (x, q2) => match rdStr bs q2 with
        | .error e => .error e
        | .ok (y, q3) => .ok ((x, y), q3, if o ≥ 64 then ⟨add t.kept t.room (x, y), t.room⟩ else t)
structure St where
  at_ : Nat
  rooms : Nat
  pairs : List Pr
  tb : Tb
def isRoom (o : Int) : Prop := o / 32 = 1
instance (o : Int) : Decidable (isRoom o) := by unfold isRoom; exact inferInstance
def step (bs : List Int) (s : St) : Except Ft St :=
  if isRoom (bs.getD s.at_ 0) then
    if s.pairs ≠ [] ∨ s.rooms > 1 then .error (.room, s.at_)
    else match rdInt bs s.at_ 5 with
      | .error e => .error e
      | .ok (n, q) => if n > 4096 then .error (.room, s.at_) else .ok ⟨q, s.rooms + 1, s.pairs, fit s.tb.kept n, n⟩
  else match rdPair s.tb bs s.at_ with
    | .error e => .error e
    | .ok (r, q, t) => .ok ⟨q, s.rooms, s.pairs ++ [r], t⟩
def run (bs : List Int) : Nat → St → Except Ft St
  | 0, s => .ok s
  | f + 1, s => if s.at_ < bs.length then match step bs s with
      | .error e => .error e
      | .ok t => run bs f t
    else .ok s
def unp (t : Tb) (bs : List Int) : Except Ft St := run bs bs.length ⟨0, 0, [], t⟩
theorem rowAt_zero (t : Tb) : rowAt t 0 = none := rfl
theorem rdPair_ok {t t' : Tb} {bs : List Int} {p q : Nat} {r : Pr} (h : rdPair t bs p = .ok (r, q, t')) : p < q ∧ q ≤ bs.length := by
  unfold rdPair at h
  dsimp only at h
  cases e : rdInt bs p (bitsOf (bs.getD p 0)) with
  | error x => rw [e] at h; cases h
  | ok z =>
    obtain ⟨n, q1⟩ := z
    rw [e] at h
    obtain ⟨_, h1, h2⟩ := rdInt_ok e
    dsimp only at h
    by_cases c : bs.getD p 0 ≥ 128
    · rw [if_pos c] at h
      cases d : rowAt t n with
      | none => rw [d] at h; cases h
      | some r1 => rw [d] at h; cases h; exact ⟨h1, h2⟩
    · rw [if_neg c] at h
      have key : ∀ {x : List Int} {q2 : Nat}, (if n = 0 then rdStr bs q1 else match rowAt t n with
        | none => .error (.row, p)
        | some r => .ok (r.1, q1)) = Except.ok (x, q2) → q1 ≤ q2 := by
        intro x q2 hh
        by_cases cn : n = 0
        · rw [if_pos cn] at hh
          exact Nat.le_of_lt (rdStr_ok hh).1
        · rw [if_neg cn] at hh
          cases d : rowAt t n with
          | none => rw [d] at hh; cases hh
          | some r1 => rw [d] at hh; cases hh; exact Nat.le_refl _
      generalize (if n = 0 then rdStr bs q1 else match rowAt t n with
        | none => .error (.row, p)
        | some r => .ok (r.1, q1)) = z at h key
      cases z with
      | error x => cases h
      | ok z =>
        obtain ⟨x, q2⟩ := z
        have k := key rfl
        dsimp only at h
        cases e3 : rdStr bs q2 with
        | error y => rw [e3] at h; cases h
        | ok y =>
          obtain ⟨y, q3⟩ := y
          rw [e3] at h
          have := rdStr_ok e3
          cases h
          omega
theorem step_ok {bs : List Int} {s t : St} (h : step bs s = .ok t) : s.at_ < t.at_ ∧ t.at_ ≤ bs.length := by
  unfold step at h
  by_cases c : isRoom (bs.getD s.at_ 0)
  · rw [if_pos c] at h
    by_cases c2 : s.pairs ≠ [] ∨ s.rooms > 1
    · rw [if_pos c2] at h; cases h
    · rw [if_neg c2] at h
      cases e : rdInt bs s.at_ 5 with
      | error x => rw [e] at h; cases h
      | ok z =>
        obtain ⟨n, q⟩ := z
        rw [e] at h
        dsimp only at h
        have := rdInt_ok e
        by_cases c3 : n > 4096
        · rw [if_pos c3] at h; cases h
        · rw [if_neg c3] at h; cases h; exact ⟨this.2.1, this.2.2⟩
  · rw [if_neg c] at h
    cases e : rdPair s.tb bs s.at_ with
    | error x => rw [e] at h; cases h
    | ok z =>
      obtain ⟨r, q, t1⟩ := z
      rw [e] at h
      cases h
      exact rdPair_ok e
/-- with enough turns one more does not tell -/
theorem run_more {bs : List Int} : ∀ {f : Nat} {s : St}, bs.length ≤ f + s.at_ → run bs (f + 1) s = run bs f s := by
  intro f
  induction f with
  | zero =>
    intro s h
    show (if s.at_ < bs.length then _ else _) = _
    rw [if_neg (by omega)]
    rfl
  | succ f ih =>
    intro s h
    by_cases c : s.at_ < bs.length
    · rw [run, if_pos c, run, if_pos c]
      cases e : step bs s with
      | error x => rfl
      | ok t =>
        have := step_ok e
        exact ih (by omega)
    · rw [run, if_neg c, run, if_neg c]
theorem run_done {bs : List Int} {f : Nat} {s : St} (h : ¬ s.at_ < bs.length) : run bs f s = .ok s := by
  cases f with
  | zero => rfl
  | succ f => rw [run, if_neg h]
theorem run_step {bs : List Int} {f : Nat} {s : St} (hf : bs.length ≤ f + s.at_) (h : s.at_ < bs.length) : run bs f s = match step bs s with
    | .error e => .error e
    | .ok t => run bs f t := by
  rw [← run_more hf, run, if_pos h]
/-! ### the law's table of words -/
theorem words_len : wordsL.length = 257 := by decide +kernel
theorem words_look : ∀ o, o < 257 → look (wordsL.getD o (0, 0)).1 (wordsL.getD o (0, 0)).2.toNat = (o : Int) ∧ 0 < (wordsL.getD o (0, 0)).2 ∧ 0 ≤ (wordsL.getD o (0, 0)).1 := by decide +kernel
theorem class_words : ∀ c ∈ classes, ∀ j, j < c.2.2.2.toNat → 0 ≤ rankOct (c.2.2.1 + (j : Nat)) ∧ wordsL[(rankOct (c.2.2.1 + (j : Nat))).toNat]? = some (c.2.1 + (j : Nat), (c.1 : Int)) := by decide +kernel
theorem lookIn_words {n : Int} {l : Nat} : ∀ {cs : List (Nat × Int × Int × Int)}, (∀ c ∈ cs, c ∈ classes) → 0 ≤ lookIn cs n l → wordsL[(lookIn cs n l).toNat]? = some (n, (l : Int)) := by
  intro cs
  induction cs with
  | nil =>
    intro _ h
    unfold lookIn at h
    exact absurd h (by decide)
  | cons c r ih =>
    intro hc h
    unfold lookIn at h ⊢
    by_cases e : c.1 = l ∧ 0 ≤ n - c.2.1 ∧ n - c.2.1 < c.2.2.2
    · rw [if_pos e]
      obtain ⟨e1, e2, e3⟩ := e
      have k := (class_words c (hc c List.mem_cons_self) (n - c.2.1).toNat (by omega)).2
      have e4 : (((n - c.2.1).toNat : Nat) : Int) = n - c.2.1 := Int.toNat_of_nonneg e2
      rw [e4] at k
      have e5 : c.2.2.1 + (n - c.2.1) = c.2.2.1 + n - c.2.1 := by omega
      have e6 : c.2.1 + (n - c.2.1) = n := by omega
      rw [e5, e6, e1] at k
      exact k
    · rw [if_neg e] at h ⊢
      exact ih (fun x hx => hc x (List.mem_cons_of_mem _ hx)) h
theorem look_words {n : Int} {l : Nat} (h : 0 ≤ look n l) : wordsL[(look n l).toNat]? = some (n, (l : Int)) := lookIn_words (fun _ h => h) h
theorem words_of {o : Nat} {n : Int} {l : Nat} (h : wordsL[o]? = some (n, (l : Int))) : look n l = (o : Int) := by
  have ho : o < 257 := by
    have := (List.getElem?_eq_some_iff.mp h).1
    rwa [words_len] at this
  have e : wordsL.getD o (0, 0) = (n, (l : Int)) := by rw [List.getD_eq_getElem?_getD, h]; rfl
  have k := (words_look o ho).1
  rw [e] at k
  exact k
end BR
/-! BrMath2: more of the arithmetic -/
namespace BR
/-- the first i of a row by a function -/
def fnN (f : Nat → Int) (i : Nat) : List Int := (List.range i).map f
theorem fnN_more (f : Nat → Int) (i : Nat) : fnN f (i + 1) = fnN f i ++ [f i] := by
  unfold fnN
  rw [List.range_succ, List.map_append]
  rfl
theorem word_steps : ∀ r, r < 257 → 0 ≤ lens.getD r 0 - (wordRun r).last ∧ lens.getD r 0 - (wordRun r).last ≤ 16 ∧ (wordRun r).num.natAbs < 2 ^ 64 ∧ lens[r]? = some (lens.getD r 0) ∧ order[r]? = some (order.getD r 0) ∧ 0 ≤ order.getD r 0 ∧ order.getD r 0 < 257 := by decide +kernel
theorem wordRun_len : ∀ r, (wordRun r).ws.length = 257
  | 0 => rfl
  | r + 1 => by
    show ((wordRun r).ws.set _ _).length = 257
    rw [List.length_set]
    exact wordRun_len r
theorem words_small : ∀ o, o < 257 → (wordsL.getD o (0, 0)).2 ≤ 16 ∧ (wordsL.getD o (0, 0)).1 < 2 ^ (wordsL.getD o (0, 0)).2.toNat := by decide +kernel
def upto (i : Nat) : List Int := (List.range i).map fun (k : Nat) => (k : Int)
theorem upto_more (i : Nat) : upto (i + 1) = upto i ++ [(i : Int)] := by
  unfold upto
  rw [List.range_succ, List.map_append]
  rfl
theorem upto_len (i : Nat) : (upto i).length = i := by
  unfold upto
  rw [List.length_map]; rw [List.length_range]
theorem filt_yes {p : Int → Bool} {i : Nat} (h : p (i : Int) = true) : (upto (i + 1)).filter p = (upto i).filter p ++ [(i : Int)] := by
  rw [upto_more, List.filter_append, List.filter_cons_of_pos h]
  rfl
theorem filt_no {p : Int → Bool} {i : Nat} (h : p (i : Int) = false) : (upto (i + 1)).filter p = (upto i).filter p := by
  rw [upto_more, List.filter_append, List.filter_cons_of_neg (by rw [h]; decide)]
  exact List.append_nil _
end BR
/-! BrMath3: the program's own way from a rank to its octet -/
namespace BR
def mx (i j : Int) : Int := if j > i then j else i
def mn (i j : Int) : Int := if j < i then j else i
def nBelow (o : Int) : Int := ((marks.filter fun m => decide (m < o)).length : Int) + (mn (mx (o - 48) 0) 10 + mn (mx (o - 65) 0) 26 + mn (mx (o - 97) 0) 26)
def okR (r : Int) : Nat → Int → Bool
  | 0, _ => false
  | f + 1, o => if o = r - 71 + nBelow (o + 1) then decide (o = rankOct r) else okR r f (r - 71 + nBelow (o + 1))
theorem okR_all : ∀ r, r < 257 → 71 ≤ r → okR ((r : Nat) : Int) 100 (((r : Nat) : Int) - 71) = true := by decide +kernel
theorem rank_letters : ∀ r, r < 26 → rankOct ((r : Nat) : Int) = 97 + ((r : Nat) : Int) := by decide +kernel
theorem rank_digits : ∀ r, r < 36 → 26 ≤ r → rankOct ((r : Nat) : Int) = 48 + ((r : Nat) : Int) - 26 := by decide +kernel
theorem rank_marks : ∀ r, r < 45 → 36 ≤ r → marks[((r : Nat) : Int).toNat - 36]? = some (rankOct ((r : Nat) : Int)) := by decide +kernel
theorem rank_plain : ∀ r, r < 71 → 45 ≤ r → rankOct ((r : Nat) : Int) = 65 + ((r : Nat) : Int) - 45 := by decide +kernel
theorem class_bounds : ∀ c ∈ classes, 0 ≤ c.2.2.1 ∧ c.2.2.1 + c.2.2.2 ≤ 257 := by decide +kernel
/-- the classes as rows of ints -/
def classesI : List (List Int) := classes.map fun c => [(c.1 : Int), c.2.1, c.2.2.1, c.2.2.2]
theorem octGo_len {o : Int} : ∀ {f k : Nat} {s t : DS}, octGo o f k s = some t → t.len ≤ s.len + f := by
  intro f
  induction f with
  | zero =>
    intro k s t h
    cases h
    exact Nat.le_refl _
  | succ f ih =>
    intro k s t h
    unfold octGo at h
    cases e : bitStep s (bitOf o k) with
    | none =>
      rw [e] at h
      cases h
    | some u =>
      rw [e] at h
      have q := ih h
      have hu : u.len ≤ s.len + 1 := by
        unfold bitStep at e
        split at e
        · cases e
        · split at e
          · cases e
            exact Nat.zero_le _
          · cases e
            exact Nat.le_refl _
      omega
end BR
/-! BrMath4: the table stays small; turns of the reading -/
namespace BR
def TbOk (t : Tb) : Prop := 0 ≤ t.room ∧ t.room ≤ 4096 ∧ total t.kept ≤ t.room
theorem fitN_fits (l : List Pr) {room : Int} (h : 0 ≤ room) : ∀ c, total (l.take (fitN l room c)) ≤ room
  | 0 => by
    show total (l.take 0) ≤ room
    rw [List.take_zero]
    exact h
  | c + 1 => by
    unfold fitN
    by_cases q : total (l.take (c + 1)) > room
    · rw [if_pos q]
      exact fitN_fits l h c
    · rw [if_neg q]
      omega
theorem total_fit (l : List Pr) {room : Int} (h : 0 ≤ room) : total (fit l room) ≤ room := fitN_fits l h _
theorem total_cons (p : Pr) (l : List Pr) : total (p :: l) = size p + total l := by
  unfold total
  rw [List.map_cons]; rw [List.sum_cons]
theorem total_add (l : List Pr) {room : Int} (p : Pr) (h : 0 ≤ room) : total (add l room p) ≤ room := by
  unfold add
  by_cases c : size p ≤ room
  · rw [if_pos c, total_cons]
    have := total_fit l (room := room - size p) (by omega)
    omega
  · rw [if_neg c]
    exact h
theorem len_total : ∀ l : List Pr, 32 * (l.length : Int) ≤ total l
  | [] => Int.le_refl _
  | p :: l => by
    have h1 := len_total l
    have h2 := size_pos p
    rw [total_cons, List.length_cons]
    omega
theorem TbOk.len {t : Tb} (h : TbOk t) : t.kept.length ≤ 900000 := by
  have := len_total t.kept
  have := h.2.1
  have := h.2.2
  omega
theorem rdPair_tb {t t' : Tb} {bs : List Int} {p q : Nat} {r : Pr} (ok : TbOk t) (h : rdPair t bs p = .ok (r, q, t')) : TbOk t' := by
  unfold rdPair at h
  dsimp only at h
  cases e : rdInt bs p (bitsOf (bs.getD p 0)) with
  | error x =>
    rw [e] at h
    exact nomatch h
  | ok z =>
    obtain ⟨n, q1⟩ := z
    rw [e] at h
    dsimp only at h
    by_cases c : bs.getD p 0 ≥ 128
    · rw [if_pos c] at h
      cases d : rowAt t n with
      | none =>
        rw [d] at h
        exact nomatch h
      | some r1 =>
        rw [d] at h
        cases h
        exact ok
    · rw [if_neg c] at h
      generalize (if n = 0 then rdStr bs q1 else match rowAt t n with
        | none => .error (.row, p)
        | some r => .ok (r.1, q1)) = z at h
      cases z with
      | error x => exact nomatch h
      | ok z =>
        obtain ⟨x, q2⟩ := z
        dsimp only at h
        cases e3 : rdStr bs q2 with
        | error y =>
          rw [e3] at h
          exact nomatch h
        | ok y =>
          obtain ⟨y, q3⟩ := y
          rw [e3] at h
          dsimp only at h
          by_cases c2 : bs.getD p 0 ≥ 64
          · rw [if_pos c2] at h
            cases h
            exact ⟨ok.1, ok.2.1, total_add _ _ ok.1⟩
          · rw [if_neg c2] at h
            cases h
            exact ok
theorem step_tb {bs : List Int} {s t : St} (ok : TbOk s.tb) (h : step bs s = .ok t) : TbOk t.tb := by
  unfold step at h
  by_cases c : isRoom (bs.getD s.at_ 0)
  · rw [if_pos c] at h
    by_cases c2 : s.pairs ≠ [] ∨ s.rooms > 1
    · rw [if_pos c2] at h
      exact nomatch h
    · rw [if_neg c2] at h
      cases e : rdInt bs s.at_ 5 with
      | error x =>
        rw [e] at h
        exact nomatch h
      | ok z =>
        obtain ⟨n, q⟩ := z
        rw [e] at h
        dsimp only at h
        have n0 := (rdInt_ok e).1
        by_cases c3 : n > 4096
        · rw [if_pos c3] at h
          exact nomatch h
        · rw [if_neg c3] at h
          cases h
          refine ⟨n0, ?_, total_fit _ n0⟩
          show n ≤ 4096
          omega
  · rw [if_neg c] at h
    cases e : rdPair s.tb bs s.at_ with
    | error x =>
      rw [e] at h
      exact nomatch h
    | ok z =>
      obtain ⟨r, q, t1⟩ := z
      rw [e] at h
      cases h
      exact rdPair_tb ok e
theorem run_tb {bs : List Int} : ∀ {f : Nat} {s t : St}, TbOk s.tb → run bs f s = .ok t → TbOk t.tb := by
  intro f
  induction f with
  | zero =>
    intro s t ok h
    cases h
    exact ok
  | succ f ih =>
    intro s t ok h
    rw [run] at h
    by_cases c : s.at_ < bs.length
    · rw [if_pos c] at h
      cases e : step bs s with
      | error x =>
        rw [e] at h
        exact nomatch h
      | ok u =>
        rw [e] at h
        exact ih (step_tb ok e) h
    · rw [if_neg c] at h
      cases h
      exact ok
/-- the name of a part with the number n, the index behind it -/
def nameOf (t : Tb) (bs : List Int) (p q : Nat) (n : Int) : Except Ft (List Int × Nat) := if n = 0 then rdStr bs q else match rowAt t n with
  | none => .error (.row, p)
  | some r => .ok (r.1, q)
theorem rdPair_name (t : Tb) (bs : List Int) (p : Nat) : rdPair t bs p = match rdInt bs p (bitsOf (bs.getD p 0)) with
  | .error e => .error e
  | .ok (n, q) =>
    if bs.getD p 0 ≥ 128 then match rowAt t n with
      | none => .error (.row, p)
      | some r => .ok (r, q, t)
    else
      match nameOf t bs p q n with
      | .error e => .error e
      | .ok (x, q2) => match rdStr bs q2 with
        | .error e => .error e
        | .ok (y, q3) => .ok ((x, y), q3, if bs.getD p 0 ≥ 64 then ⟨add t.kept t.room (x, y), t.room⟩ else t) := rfl
/-- the same outcome from s as from s0 -/
def Ahead (bs : List Int) (s0 s : St) : Prop := ∀ F, bs.length ≤ F → run bs F s0 = run bs F s
def AheadE (bs : List Int) (s0 : St) (f : Ft) : Prop := ∀ F, bs.length ≤ F → run bs F s0 = .error f
theorem Ahead.err {bs : List Int} {s0 s : St} {f : Ft} (h : Ahead bs s0 s) (l : s.at_ < bs.length) (e : step bs s = .error f) : AheadE bs s0 f := fun F hF => by
  rw [h F hF, run_step (by omega) l, e]
theorem Ahead.more {bs : List Int} {s0 s t : St} (h : Ahead bs s0 s) (l : s.at_ < bs.length) (e : step bs s = .ok t) : Ahead bs s0 t := fun F hF => by
  rw [h F hF, run_step (by omega) l, e]
theorem Ahead.done {bs : List Int} {s0 s : St} (h : Ahead bs s0 s) (l : ¬ s.at_ < bs.length) : ∀ F, bs.length ≤ F → run bs F s0 = .ok s := fun F hF => by
  rw [h F hF, run_done l]
end BR
/-! BrExc: HeadFault: made (super().__init__ with two arguments, two fields), raised, raised in an except suite; try .. except X as n whose suite raises -/
namespace BR
open PySem PySem.W PySem.Calls PyProof.Rows PySem.HandSPX
abbrev vet : List Value := [.type "ValueError", .type "Exception", .type "BaseException", .type "object"]
/-- what the written part says of HeadFault, at C, of its __init__, at fI, its cell at cc, its code at cda -/
structure HF (K : Frag) (mg : Str → Option Value) (C fI cc cda : Addr) : Prop where
  gC : mg "HeadFault" = some (.ref C)
  cls : ∃ nm q N bs sn sub ab col dd k0 k1 k2 k3 k5, K.lookup C = some (excClassObj nm q C N bs vet true sn sub ab col dd k0 k1 k2 k3 k5 "ValueError.__new__")
  sa : findIn K (.ref C) "__setattr__" = some (some (.builtin "object.__setattr__"))
  ga : findIn K (.ref C) "__getattribute__" = some (some (.builtin "BaseException.__getattribute__"))
  gg : findIn K (.ref C) "__getattr__" = some none
  noW : findIn K (.ref C) "word" = some none
  noA : findIn K (.ref C) "at" = some none
  iC : findIn K (.ref C) "__init__" = some (some (.ref fI))
  tC : typeIn K (.ref fI) = some (.type "function")
  kC : keepIn K (.ref C) = true
  exC : subIn K (.ref C) (.type "BaseException") = some true
  veC : subIn K (.ref C) (.type "ValueError") = some true
  tyC : typeIn K (.ref C) = some (.type "type")
  hdC : hasDictIn K C = true
  te : exmOne K (.ref C) (.ref C) = some true
  sup : ks_superIn K C C "__init__" = some (some (.builtin "ValueError.__init__"))
  mroC : mroIn K C (.ref C) = some true
  opq : nsIn K cStatics "thirdparty.any" = some none
  fn : ∃ (oc : Value) (od : Option Addr) (kV doc pm : Value) (an : Option Addr) (ct : Value) (osl : Array (Option Value)),
    K.lookup fI = some ⟨oc, od, .func (fnX "__init__" "HeadFault.__init__" (L2.defArgs sHfI) (L2.defBody sHfI) (L2.defScope sHfI) [("__class__", cc)] .none kV doc pm an (.ref cda) ct), osl⟩
  cd : codeIn K (.ref cda) "HeadFault.__init__" = true
  code : ∃ (ccl : Value) (cdd : Option Addr) (vs : Array Value) (ccs : Array (Option Value)) (tf : Tok), K.lookup cda = some ⟨ccl, cdd, .fields vs, ccs⟩ ∧ vs[2]? = some (.str "/claim/cut.py" tf)
  cell : ∃ (cl : Value) (cld : Option Addr) (csl : Array (Option Value)), K.lookup cc = some ⟨cl, cld, .cell (some (.ref C)), csl⟩
  mgS : mg "super" = none
section
variable {E : Value → Shared → Prop} {A : Around} {w : World} {prog : Program} {t : Nat} {os : OsState} {d : Drawn} {g : Array GenState} {h : Heap}
variable {C N : Addr} {nm q : Str} {k0 k1 k2 k3 k5 : Option Value} {dd : Option Addr} {bs bm sub : List Value} {sn : List Str} {ab hdct : Bool} {col : Option Bool}
theorem call_mw {u e t0 : Addr} {rest : List Value} {Q : Value → Shared → Prop}
    (hC : h.get? C = some (excClassObj nm q C N bs bm hdct sn sub ab col dd k0 k1 k2 k3 k5 "ValueError.__new__")) (he : h.get? e = some (excO C t0)) (hu : h.get? u = some (kxs_mw "ValueError.__init__" e)) (hrest : rest.length ≤ sizeLine)
    (hq : ∀ h' t1, (∀ b o, b ≠ e → h.get? b = some o → h'.get? b = some o) → h'.get? e = some (excO C t1) → Q .none ⟨h', g, d, t, os⟩) : wpAny (model prog w) A (call (.ref u) rest) Q E ⟨h, g, d, t, os⟩ := by
  refine wpAny_call (codeAny_of_tree ?_); show wpAny _ A.in1 (callAny (.ref u) ⟨rest, []⟩) _ _ _
  simp only [callAny]
  refine wpAny_bind (wpAny_load hu ?_); simp only [kxs_mw, show (Value.type "method-wrapper" == Value.type "method" || Value.type "method-wrapper" == Value.type "builtin_function_or_method" || Value.type "method-wrapper" == Value.type "method-wrapper") = true by decide, if_true]
  refine W.KFB.if_so (by decide) ?_; refine wpAny_bind (check_bound_init F.excBase_ValueError.toExcCallFacts hC he rfl ?_)
  refine wpAny_bind (wpAny_pure (wpAny_pure ?_)); refine ⟨plainId_quiet F.excBase_ValueError.init.plain _, codeAny_builtin F.excBase_ValueError.initEntry ?_⟩
  exact exc_init_tree (cls := .ref C) (t0 := t0) (dv := none) (c2 := .none) (c3 := .none) (b4 := .bool false) he hrest fun h' k e' _ => hq h' _ k e'
end
/-- what __init__ leaves of a fresh exception at x -/
structure InitEnd (h h' : Heap) (x C dx t1 : Addr) (v u : Value) : Prop where
  keep : ∀ b o, b ≠ x → h.get? b = some o → h'.get? b = some o
  obj : h'.get? x = some { cls := .ref C, dict := some dx, data := .fields #[.ref t1, .none, .none, .none, .bool false, .none] }
  dbig : h.objs.size ≤ dx
  dne : dx ≠ x
  ns : h'.Ns1 dx (fun y => if y = "at" then some u else if y = "word" then some v else none)
/-- a made HeadFault -/
structure OwnMade (h h' : Heap) (e C d : Addr) (v u : Value) : Prop where
  keep : ∀ b o, h.get? b = some o → h'.get? b = some o
  new : h.objs.size ≤ e
  obj : ∃ t1, h'.get? e = some { cls := .ref C, dict := some d, data := .fields #[.ref t1, .none, .none, .none, .bool false, .none] }
  dbig : h.objs.size ≤ d
  dne : d ≠ e
  ns : h'.Ns1 d (fun y => if y = "at" then some u else if y = "word" then some v else none)
theorem kept_but {K : Frag} {h h' : Heap} {x : Addr} (X : K.In h) (hx : K.lookup x = none) (k : ∀ b o, b ≠ x → h.get? b = some o → h'.get? b = some o) : K.In h' := fun a o e =>
  k a o (fun z => by rw [z, hx] at e; cases e) (X a o e)
section
variable {P : Program} {w : World} {A : Around} {E : Value → Shared → Prop} {R : Result → Shared → Prop} {s : Shared} {K : Frag} {mg : Str → Option Value} {C fI cc cda : Addr} {base : Heap}
theorem hf_init (hP : P.main.file = "/claim/cut.py") (hP2 : (P.main.scope.names.lookup ("super" : Str)).isSome = false) (T : HF K mg C fI cc cda) (M : L2.Mod K mg base) {x t0 : Addr} {v u : Value} (kb : ∀ b o, base.get? b = some o → s.heap.get? b = some o) (hbx : base.get? x = none)
    (hx : s.heap.get? x = some (excO C t0)) (hroom : A.depth < recursionLimit)
    (hq : ∀ h' tk t1 dx, InitEnd s.heap h' x C dx t1 v u → R (.ok (.ret .none)) { s with heap := h', toks := tk }) :
    codeAny (model P w) A (.call (.ref fI) ⟨[.ref x, v, u], []⟩) R s := by
  obtain ⟨oc, od, kV, doc, pm, an, ct, osl, ho⟩ := T.fn
  obtain ⟨nm, q, N, bs, sn, sub, ab, col, dd, k0, k1, k2, k3, k5, hC⟩ := T.cls
  obtain ⟨ccl, cdd, vs, ccs, tf, hcda, hvs⟩ := T.code
  obtain ⟨cl, cld, csl, hcc⟩ := T.cell
  have hcl : clsIn K C = some { name := nm, bases := bs, mro := .ref C :: vet, ns := N, qualname := q, hasDict := true, slotNames := sn, subclasses := sub, abstract := ab, collection := col, hasDel := false } := by unfold clsIn; rw [hC] <;> rfl
  have X : K.In s.heap := M.kin.keeps kb
  refine ks_codeAny_call_defAt (binds := [("self", .ref x), ("word", v), ("at", u)]) hroom (X _ _ ho) rfl (M.nolimit.keeps kb) (codeRec_of X T.cd) rfl (BindsTo.of_eq (by first | rfl | with_unfolding_all rfl)) (show ∀ y ∈ (L2.defScope sHfI).names, y.2 ≠ .cell by decide +kernel)
    (show ∀ y ∈ ([("self", .ref x), ("word", v), ("at", u)] : List (Str × Value)), (L2.defScope sHfI).names.lookup y.1 = some .local by intro y hy; simp only [List.mem_cons, List.not_mem_nil, or_false] at hy; rcases hy with rfl | rfl | rfl <;> first | exact (show (L2.defScope sHfI).names.lookup ("self" : Str) = some .local by decide +kernel) | exact (show (L2.defScope sHfI).names.lookup ("word" : Str) = some .local by decide +kernel) | exact (show (L2.defScope sHfI).names.lookup ("at" : Str) = some .local by decide +kernel)) (fun h₀ hns keep => ?_)
  have hxL : s.heap.objs.size ≠ x := Nat.ne_of_gt (Heap.lt_size hx)
  have hx0 := keep _ _ hx
  have X0 : K.In h₀ := X.keeps keep
  have hlt : s.heap.objs.size < h₀.objs.size := hns.lt
  have G0 := (M.glob.keeps kb).keeps keep
  obtain ⟨mb, hmb, hbs⟩ := M.blt
  have B0 := (hmb.keeps kb).keeps keep
  -- super().__init__(word, at)
  refine ks_wpAt_execs_cons (ks_wpAt_Expr_any (ks_wpAt_MethodCall ?_))
  refine ks_wpAt_super_base (f := fI) (cc := cda) (by first | rfl | kernel_rfl) (by first | rfl | kernel_rfl) (by decide) rfl (X0 _ _ ho) rfl (ar := ((L2.defArgs sHfI).args.head?).getD { arg := "", annotation := none, pos := ⟨0, 0, 0, 0⟩ }) (by first | rfl | kernel_rfl) rfl (X0 _ _ hcda) rfl hvs (by rw [hP]; rfl) hP2 ?_
  refine ks_loadName_global (by first | rfl | kernel_rfl) (by first | rfl | kernel_rfl) (loadGlobal_builtin G0 T.mgS B0 ((hbs "super" (by decide)).trans (by decide +kernel)) ⟨rfl, ?_⟩)
  refine wpAny_loadName_free (by first | rfl | kernel_rfl) (by first | rfl | kernel_rfl) rfl ⟨_, X0 _ _ hcc, rfl⟩ ?_
  refine wpAny_loadName_local (by first | rfl | kernel_rfl) (by first | rfl | kernel_rfl) hns (v := .ref x) rfl ?_
  refine ks_wpAny_isType_cls (X0 _ _ hC) rfl ⟨rfl, ?_⟩
  refine ks_wpAny_call_super (X0 _ _ hC) rfl hx0 rfl (fun c e => by cases e) (looks_mroIn X0 T.mroC) (fun h2 hso k2 => ?_)
  have X2 : K.In h2 := X0.keeps k2
  have I2 : InstAt h2 x (excO C t0) C none := ⟨k2 _ _ hx0, rfl, rfl, trivial⟩
  have hxC : x ≠ C := fun z => by
    rw [z] at hx0
    rw [X0 _ _ hC] at hx0
    cases hx0
  have hsup : alongIn K "__init__" (((.ref C :: vet : List Value).dropWhile (· != .ref C)).drop 1) = some (some (.builtin "ValueError.__init__")) := by
    have e := T.sup
    unfold ks_superIn at e
    rw [hcl] at e
    exact e
  refine kxs_getMethod kxs_ValueError hso (looks_opaque X2 T.opq) (l₀ := .ref C :: vet) (fun A Q E s k q => wpAny_bind ((looks_clsIn X2 hcl) A _ E s k (wpAny_pure q))) rfl X2 hsup (I2.type.andThen (looks_subIn X2 T.veC)) hxC (by decide) ?_
  have hmw : (h2.push (kxs_mw "ValueError.__init__" x)).get? h2.objs.size = some (kxs_mw "ValueError.__init__" x) := Heap.get?_push_at rfl rfl
  have k3 : ∀ b o, h₀.get? b = some o → (h2.push (kxs_mw "ValueError.__init__" x)).get? b = some o := fun b o e => Heap.get?_push_of_some _ (k2 b o e)
  have ld : ∀ {hh : Heap} {tk : Nat} {gg : Array GenState} {dd : Drawn} {oo : OsState} {y : Str} {pos : Pos} {z : Value} {Q : Value → Shared → Prop} {E : Value → Shared → Prop}, (∀ b o, b ≠ x → h₀.get? b = some o → hh.get? b = some o) → (callEnv (fnX "__init__" "HeadFault.__init__" (L2.defArgs sHfI) (L2.defBody sHfI) (L2.defScope sHfI) [("__class__", cc)] .none kV doc pm an (.ref cda) ct) s.heap.objs.size fI).kindOf y = some .local →
      ([("self", .ref x), ("word", v), ("at", u)] : List (Str × Value)).reverse.lookup y = some z → (y == ("__debug__" : Str)) = false → Q z ⟨hh, gg, dd, tk, oo⟩ →
      wpAny (model P w) (A.deeper (callEnv (fnX "__init__" "HeadFault.__init__" (L2.defArgs sHfI) (L2.defBody sHfI) (L2.defScope sHfI) [("__class__", cc)] .none kV doc pm an (.ref cda) ct) s.heap.objs.size fI)) (eval (.Name y pos) (callEnv (fnX "__init__" "HeadFault.__init__" (L2.defArgs sHfI) (L2.defBody sHfI) (L2.defScope sHfI) [("__class__", cc)] .none kV doc pm an (.ref cda) ct) s.heap.objs.size fI)) Q E ⟨hh, gg, dd, tk, oo⟩ := fun k hy hz hd q =>
    wpAny_Name (wpAny_loadName_local (by first | rfl | kernel_rfl) hy (hns.at fun o e => k _ _ hxL e) hz q) hd
  refine kxs_callWith (i := "ValueError.__init__") (x := x) (by first | rfl | kernel_rfl) (evalArgs_plain ?_)
  refine spliced_cons (ld (fun b o _ e => k3 b o e) (by first | rfl | kernel_rfl) (by first | rfl | kernel_rfl) (by decide) ?_)
  refine spliced_cons (ld (fun b o _ e => k3 b o e) (by first | rfl | kernel_rfl) (by first | rfl | kernel_rfl) (by decide) ?_)
  refine spliced_nil ⟨hmw, ?_⟩
  refine call_mw (k3 _ _ (X0 _ _ hC)) (k3 _ _ hx0) hmw (by show 2 ≤ sizeLine; decide) (fun h4 t1 k4 hx4 => ?_)
  -- self.word = word
  have nxC : K.lookup x = none := by
    cases e : K.lookup x with
    | none => rfl
    | some o =>
      have z := M.kin _ _ e
      rw [hbx] at z
      cases z
  have k5 : ∀ b o, b ≠ x → h₀.get? b = some o → h4.get? b = some o := fun b o hb e => k4 b o hb (k3 b o e)
  have X4 : K.In h4 := kept_but X0 nxC k5
  show _root_.PySem.wpAt _ _ _ (execs _ _) _ _ _
  refine wpAt_of_wpAny (wpAny_execs_cons (plainObj_wpAny_Assign_Attribute ?_))
  refine ld k5 (by first | rfl | kernel_rfl) (z := v) (by first | rfl | kernel_rfl) (by decide) (ld k5 (by first | rfl | kernel_rfl) (z := .ref x) (by first | rfl | kernel_rfl) (by decide) ?_)
  refine set_plain X4 (ox := excO C t1) (od := none) ⟨hx4, rfl, rfl, trivial⟩ T.sa ?_
  refine exc_osa X4 hx4 hcl (show refsVE (.ref C :: vet) = true from (by decide +kernel : refsVE vet = true)) rfl T.noW (fun h5 tk5 dx k6 dn dne hx5 hn5 => ?_)
  -- self.at = at
  have k7 : ∀ b o, b ≠ x → h₀.get? b = some o → h5.get? b = some o := fun b o hb e => k6 b o hb (k5 b o hb e)
  have X5 : K.In h5 := kept_but X0 nxC k7
  show wpAny _ _ (execs _ _) _ _ _
  refine wpAny_execs_cons (plainObj_wpAny_Assign_Attribute ?_)
  refine ld k7 (by first | rfl | kernel_rfl) (z := u) (by first | rfl | kernel_rfl) (by decide) (ld k7 (by first | rfl | kernel_rfl) (z := .ref x) (by first | rfl | kernel_rfl) (by decide) ?_)
  obtain ⟨oD, esD, epD, hoD, hdD, _⟩ := hn5
  have hn5' : h5.Ns1 dx (fun y => if y = "word" then some v else none) := ⟨oD, esD, epD, hoD, hdD, by assumption⟩
  refine set_plain X5 (ox := { cls := .ref C, dict := some dx, data := .fields #[.ref t1, .none, .none, .none, .bool false, .none] }) (od := some oD) ⟨hx5, rfl, rfl, hoD⟩ T.sa ?_
  refine PySem.OEX.osa_old (nl := ["word"]) X5 hx5 hn5' (fun y hy => ?_) (by decide) hcl (show refsVE (.ref C :: vet) = true from (by decide +kernel : refsVE vet = true)) rfl T.noA (fun h6 tk6 k8 hn6 => ?_)
  · by_cases e : y = "word"
    · rw [e]; exact List.mem_cons_self
    · exact absurd (if_neg e) hy
  have k9 : ∀ b o, b ≠ x → s.heap.get? b = some o → h6.get? b = some o := fun b o hb e => k8 b o (Nat.ne_of_lt (Nat.lt_of_lt_of_le (Heap.lt_size (k5 b o hb (keep b o e))) dn)) (k7 b o hb (keep b o e))
  have z : s.heap.objs.size < h4.objs.size := by
    obtain ⟨oL, _, _, hoL, _⟩ := hns
    exact Heap.lt_size (k5 _ _ hxL hoL)
  show wpAny _ _ (execs _ _) _ _ _
  exact wpAny_execs_nil (hq h6 tk6 t1 dx ⟨k9, k8 _ _ (Ne.symm dne) hx5, Nat.le_of_lt (Nat.lt_of_lt_of_le z dn), dne, hn6⟩)
theorem hf_made (hP : P.main.file = "/claim/cut.py") (hP2 : (P.main.scope.names.lookup ("super" : Str)).isSome = false) (T : HF K mg C fI cc cda) (M : L2.Mod K mg base) {v u : Value} (kb : ∀ b o, base.get? b = some o → s.heap.get? b = some o) (hroom : A.depth + 1 < recursionLimit)
    (hq : ∀ h' tk e d, OwnMade s.heap h' e C d v u → R (.ok (.ret (.ref e))) { s with heap := h', toks := tk }) :
    codeAny (model P w) A (.call (.ref C) ⟨[v, u], []⟩) R s := by
  obtain ⟨nm, q, N, bs, sn, sub, ab, col, dd, k0, k1, k2, k3, k5, hC⟩ := T.cls
  have X : K.In s.heap := M.kin.keeps kb
  obtain ⟨hp, g, dr, tk, os⟩ := s
  have k : ∀ b o, hp.get? b = some o → ((hp.push (kdv_tup [v, u])).push (excO C hp.objs.size)).get? b = some o := fun b o e => Heap.get?_push_of_some _ (Heap.get?_push_of_some _ e)
  have hget : ((hp.push (kdv_tup [v, u])).push (excO C hp.objs.size)).get? (hp.objs.size + 1) = some (excO C hp.objs.size) := by heap_get
  have hnb : base.get? (hp.objs.size + 1) = none := by
    cases e : base.get? (hp.objs.size + 1) with
    | none => rfl
    | some o =>
      have z : hp.get? (hp.objs.size + 1) = some o := kb _ _ e
      exact absurd (Nat.lt_of_succ_lt (Heap.lt_size z)) (Nat.lt_irrefl _)
  refine call_own F.excBase_ValueError (fun X => rfl) (X _ _ hC) (looks_findIn X T.iC) (fun self => bind_fn X self T.tC) (by show 2 ≤ sizeLine; decide) ?_
  refine hf_init (s := ⟨(hp.push (kdv_tup [v, u])).push (excO C hp.objs.size), g, dr, tk, os⟩) hP hP2 T M (fun b o e => k b o (kb b o e)) hnb hget ?_ fun h' tk' t1 dx ⟨k', hx, dn, dne, hns⟩ => ?_
  · show A.depth + 1 < recursionLimit
    exact hroom
  · have old : ∀ b o, hp.get? b = some o → h'.get? b = some o := fun b o e => k' b o (Nat.ne_of_lt (Nat.lt_succ_of_lt (Heap.lt_size e))) (k b o e)
    have z : hp.objs.size + 1 + 1 ≤ dx := by
      first
        | (simpa only [Heap.size_push] using dn)
        | exact dn
        | (have q := dn; rw [Heap.size_push, Heap.size_push] at q; exact q)
    exact ⟨rfl, hq h' tk' (hp.objs.size + 1) dx ⟨old, Nat.le_succ _, ⟨_, hx⟩, Nat.le_trans (Nat.le_trans (Nat.le_succ _) (Nat.le_succ _)) z, dne, hns⟩⟩
end
end BR
/-! BrExc2: the rules of HeadFault over the layer -/
namespace BR
open PySem PySem.Spec PyProof.Rows L2
/-- what the text says of itself -/
structure HFP (P : Program) : Prop where
  file : P.main.file = "/claim/cut.py"
  noS : (P.main.scope.names.lookup ("super" : Str)).isSome = false
/-- HeadFault(v, u) -/
def tMkHF (C : Addr) (ta : TA) : L2.St → Hp → XK → Prop := fun σ H Q => ta σ H fun vs H1 => ∃ v u, vs = [v, u] ∧ ∀ d, H1 d = none → Q (.ref C) (some d) (upd H1 d (.xd [(("at" : Str), u), (("word" : Str), v)]))
section
variable {X : Cx} {C fI cc cda : Addr}
theorem pmkN_hf {a b : Expr} {ta : TA} {p pos : Pos} (HP : HFP X.prog) (T : HF X.K X.mg C fI cc cda) (hr : X.A.depth + 1 < recursionLimit) (ha : PA X [a, b] ta) (hg : Gl X "HeadFault" := by rfl)
    (he : starEach (a :: [b]) X.env = (false, eval a X.env) :: starEach [b] X.env := by rfl) (hpl : (backTo pos (starEach [b] X.env)).any (·.1) = false := by rfl) :
    L2N.PMk X (.Call (.Name "HeadFault" p) [a, b] [] pos) (tMkHF C ta) := by
  intro pins s σ H Q I h
  refine wpAny_Call_Name_kw (ld_glob I hg T.gC ?_)
  refine PySem.W.callWith_K (h₀ := X.base) I.ok.mod.kin T.kC (thn (ha.run pos pins s σ H _ I h) fun us s1 hh => ?_) he hpl
  obtain ⟨vs, H1, I1, r1, v, u, ev, q1⟩ := hh
  subst ev
  refine ⟨I1.kIn, ?_⟩
  obtain ⟨v', u', rfl, rv, ru⟩ := Vals.two r1
  show wpAny _ _ (call (.ref C) [v', u']) _ _ _
  obtain ⟨hp, g, dr, tk, os⟩ := s1
  refine wpAny_call (hf_made HP.file HP.noS T I1.ok.mod I1.bk hr fun h' tk' e d M => ?_)
  show L2N.MkP X pins σ Q (.ref e) ⟨h', g, dr, tk', os⟩
  obtain ⟨t1, hoe⟩ := M.obj
  have hns := M.ns
  obtain ⟨G', g1, g2⟩ := restrict h' fun b => decide (b ≠ e)
  have gk : ∀ b, b ≠ e → G'.get? b = h'.get? b := fun b hb => g1 b (decide_eq_true hb)
  have ge : G'.get? e = none := g2 e (by simp)
  have old : ∀ b o, hp.get? b = some o → G'.get? b = some o := fun b o q => (gk b (Nat.ne_of_lt (Nat.lt_of_lt_of_le (Heap.lt_size q) M.new))).trans (M.keep b o q)
  have ob : ObjOk X.prog X.w (upd H1 d (.xd [(("at" : Str), u), (("word" : Str), v)])) G' d (.xd [(("at" : Str), u), (("word" : Str), v)]) :=
    ⟨_, hns.at (fun o q => (gk d M.dne).trans q), fun f => relO_put ru (relO_put (fs := []) (mA := fun _ => none) rv fun g => True.intro) f⟩
  have J : Inv X pins σ (upd H1 d (.xd [(("at" : Str), u), (("word" : Str), v)])) ⟨G', g, dr, tk', os⟩ := I1.laid (t' := tk') old M.dbig ob
  refine ⟨e, _, _, ⟨G', g, dr, tk', os⟩, _, .ref C, some d, rfl, J, fun b o q => ?_, ge, hoe, ⟨rfl, rfl, fun vs hv => by cases hv; rfl⟩, rfl, rfl, ?_, rfl, I1.bare, raises_own T.exC T.tyC, q1 d (I1.hok.fresh M.dbig)⟩
  · by_cases hb : b = e
    · have q' : G'.get? b = some o := q
      rw [hb, ge] at q'; cases q'
    · exact (gk b hb).symm.trans q
  · rw [upd_ne (Ne.symm M.dne)]
    exact I1.hok.fresh M.new
theorem pmk_ofN {e : Expr} {t : L2.St → Hp → XK → Prop} (h : L2N.PMk X e t) : L2.PMk X e t := fun pins s σ H Q I q => thn (h pins s σ H Q I q) fun u s' x => by
  obtain ⟨a, oe, vs, sI, H', cls, d, rfl, J, k, hne, ha, hz, hd, h1, na, os, ag, r, q⟩ := x
  exact ⟨a, oe, vs, sI, H', cls, d, rfl, J, k, hne, ha, hz.zc, hd, h1, na, os, ag, r, q⟩
end
end BR
/-! BrExc3: try: body, except X as n: a suite that always raises -/
namespace BR
open PySem PySem.Spec PyProof.Rows L2 L2H
section
variable {s : Shared} {H : Hp} {σ : L2.St} {X : Cx} {pins : List (Addr × Obj)}
theorem frames_but {h h' B : Heap} {L : Addr} (hs : Heap.SameBut L h h') (ho : ∃ o, h'.get? L = some o ∧ ∀ vs, o.data ≠ .fields vs) : ∀ {l : List Env}, h.FunFrames B l → h'.FunFrames B l
  | [], _ => trivial
  | env :: rest, ⟨a, ⟨M, o, e1, e2, e3, e4⟩, r⟩ => by
    refine ⟨a, ?_, frames_but hs ho r⟩
    by_cases q : M = L
    · obtain ⟨o', e5, e6⟩ := ho
      exact ⟨M, o', e1, e2, q ▸ e5, e6⟩
    · exact ⟨M, o, e1, e2, (hs.2 M q).trans e3, e4⟩
/-- a local name is gone: the frame's own dict alone has changed (a def without cells) -/
theorem Inv_gone {i : Nat} {n : Str} {h' : Heap} {t' : Nat} {v : Option Value} {m : Str → Option Value} (I : Inv X pins σ H s) (hN : X.N.Nodup) (hi : X.N[i]? = some n) (nc : ∀ y c, X.env.cells.lookup y = some c → False)
    (hm : ∀ (j : Nat) (y : Str) (w : V), X.N[j]? = some y → σ[j]? = some (some w) → Vis X.env.scope y → ∃ u, RelV w u ∧ Look X.env s.heap m y u) (hn : h'.Ns X.env.locals (fun y => if y = n then v else m y)) (hs : Heap.SameBut X.env.locals s.heap h') :
    Inv X pins (σ.set i none) H { s with heap := h', toks := t' } := by
  have old : ∀ b, (∃ o, X.s_0.heap.get? b = some o) → b ≠ X.env.locals := fun b ⟨o, e⟩ => Nat.ne_of_lt (Nat.lt_of_lt_of_le (Heap.lt_size e) I.ok.above)
  have tr : ∀ b o, H b = some o → b ≠ X.env.locals := fun b o e z => by
    rw [z, I.free] at e
    cases e
  constructor
  · exact I.ok
  · exact I.os
  · exact I.bare
  · have u := I.base
    refine ⟨fun b o e n1 n2 n3 => ?_, fun b o e n1 n2 n3 => ?_, u.free, fun b o e n1 => ?_, u.tups, u.frzs, u.tbls⟩
    · rw [hs.2 b (old b ⟨o, e⟩)]
      exact u.keep b o e n1 n2 n3
    · rw [hs.2 b (old b ⟨o, e⟩)]
      exact u.slot b o e n1 n2 n3
    · rw [hs.2 b (old b ⟨o, e⟩)]
      exact u.there b o e n1
  · refine ⟨_, hn, fun j y w e1 e2 e3 => ?_⟩
    have ji : j ≠ i := fun z => by
      rw [z] at e2
      by_cases lt : i < σ.length
      · rw [List.getElem?_set_self lt] at e2
        cases e2
      · rw [List.getElem?_eq_none (by simpa using lt)] at e2
        cases e2
    rw [List.getElem?_set_ne (Ne.symm ji)] at e2
    obtain ⟨u, r, l⟩ := hm j y w e1 e2 e3
    refine ⟨u, r, ?_⟩
    rcases l with ⟨k, e⟩ | ⟨_, c, e, _⟩
    · refine .inl ⟨k, ?_⟩
      show (if y = n then v else m y) = some u
      rw [if_neg (fun z : y = n => ji (nodup_ix hN e1 (z.symm ▸ hi)))]
      exact e
    · exact (nc y c e).elim
  · exact fun y c e => (nc y c e).elim
  · exact I.free
  · exact I.freeC
  · intro p hp
    have q := I.pin p hp
    exact ⟨(hs.2 p.1 q.2.2.1).trans q.1, q.2⟩
  · intro b o e
    refine (I.hok b o e).stay (fun c w hc q => ?_) (fun _ q => q) (fun _ _ q => q)
    rw [hs.2 c]
    · exact q
    · rcases hc with rfl | hc
      · exact tr c o e
      · exact tr c _ hc
  · show (σ.set i none).length = X.N.length
    rw [List.length_set]
    exact I.len
end
/-- no way but a raise -/
abbrev DNo : Ends := { nx := fun _ _ => False, rt := fun _ _ => False, bk := fun _ _ => False, ct := fun _ _ => False }
/-- what the clause wishes of an exception of the body -/
def wCat (K : PySem.W.Frag) (c : Value) (i : Nat) (ts : Addr → Value → Option Addr → TS) : WX := fun cls d σ H => PySem.W.exmOne K cls c = some true ∧ ∀ a, H a = none → ts a cls d DNo (σ.set i (some (.ref a))) H
/-- the suite's context, its own wish -/
abbrev suiteE (X : Cx) (a : Addr) (pn : List (Addr × Obj)) (xe : Value → Shared → Prop) : Cx := { X with A := X.A.mark (some (.ref a)), calm := false, pn := pn, xe := xe }
section
variable {Wout : WX} {X : Cx} {c : Value} {x n : Str} {i : Nat} {b₀ : Stmt} {body suite : List Stmt} {np pos pos' : Pos} {ts : Addr → Value → Option Addr → TS} {tb : WX → TS}
theorem ps_try_asX (hs : X.stack = X.env :: X.outer) (hf : X.env.frame = some X.env.locals) (hN : X.N.Nodup) (hi : X.N[i]? = some n) (hln : X.env.kindOf n = some .local) (hc : Names X x c) (nc : ∀ y c, X.env.cells.lookup y = some c → False)
    (hpa : ∀ hd : Option Value, PassesOwnAt (model X.prog X.w) (X.A.mark hd) X.A X.env X.xe) (tk : L2.Takes X Wout) (hW : ∀ cls d σ σ' H, Wout cls d σ H → Wout cls d σ' H)
    (hb : ∀ (W : WX) (pn : List (Addr × Obj)) (xe : Value → Shared → Prop), L2N.Takes (X.tr pn xe) W → PassesOwn (model X.prog X.w) X.A X.env xe → PSs (X.tr pn xe) body (tb W))
    (hsu : ∀ (a : Addr) (oe : Obj) (cls : Value) (d : Option Addr) (pn : List (Addr × Obj)) (xe : Value → Shared → Prop), L2N.Zn cls d oe → (∃ vs, oe.data = .fields vs) → L2.Takes (suiteE X a ((a, oe) :: pn) xe) Wout → HotC (suiteE X a ((a, oe) :: pn) xe) →
      PSs (suiteE X a ((a, oe) :: pn) xe) (b₀ :: suite) (ts a cls d)) :
    PS X (.Try body [.ExceptHandler (some (.Name x np)) (some n) (b₀ :: suite) pos'] [] [] pos) (fun D σ H => tb (wCat X.K c i ts) D σ H) := by
  constructor
  intro pins s σ H D I h
  have ok := I.ok
  have hfr : X.A.frames = some (X.env :: X.outer) := ok.frames.trans (congrArg some hs)
  have offF : ∀ {B g : Heap} {b : Addr} {o : Obj} {vs : Array Value}, g.FunFrames B (X.env :: X.outer) → g.get? b = some o → o.data = .fields vs → b ∉ frs (X.env :: X.outer) := fun ff e dd hm => by
    have q := (ff.mem hm).2
    rw [e] at q
    obtain ⟨o', e', y⟩ := q
    cases e'
    exact y _ dd
  have Lin : X.env.locals ∈ frs (X.env :: X.outer) := List.mem_filterMap.mpr ⟨X.env, List.mem_cons_self, hf⟩
  have body_ok := (hb (wCat X.K c i ts) (X.pn ++ pins) (fun e s₁ => wpAny (model X.prog X.w) X.A (noteFrame e X.env) (fun _ s₂ => wpAny (model X.prog X.w) X.A (setFlight e none) (fun _ s₃ =>
    wpAny (model X.prog X.w) X.A (handleBy e X.env [.ExceptHandler (some (.Name x np)) (some n) (b₀ :: suite) pos']) (SP X pins D) X.xe s₃) X.xe s₂) X.xe s₁) (fun u s' xx => ?_) PassesOwn.looking).run [] s σ H D (I.toTry _) h
  · refine wpAny_Try_except (wpAny_mono body_ok (fun f s1 q => ?_) fun _ _ q => q)
    cases f with
    | next =>
      obtain ⟨σ1, H1, J, q⟩ := q
      exact wpAny_execs_nil ⟨σ1, H1, Inv.ofTry J ok, q⟩
    | ret u =>
      obtain ⟨v, σ1, H1, J, r, q⟩ := q
      exact ⟨v, σ1, H1, Inv.ofTry J ok, r, q⟩
    | brk =>
      obtain ⟨σ1, H1, J, q⟩ := q
      exact ⟨σ1, H1, Inv.ofTry J ok, q⟩
    | cont =>
      obtain ⟨σ1, H1, J, q⟩ := q
      exact ⟨σ1, H1, Inv.ofTry J ok, q⟩
  -- the body's exception lands here
  obtain ⟨a, B, sI, pins', σ1, H1, cls, d, rfl, J', nb, up, sky, na, os, ag, yes, go⟩ := xx
  have J := Inv.ofTry J' ok
  rw [hs] at sky
  refine L2N.Sky.land L2N.Zn.steady hfr hf sky (fun g3 f3 up3 => ?_)
  have J3 : Inv X pins σ1 H1 { s' with heap := g3 } := J.landed nb f3.1 (up.trans up3) os ag
  obtain ⟨o3, v3, at3, z3, d3⟩ := f3.there
  have nfr := offF f3.2.2.1 at3 d3
  have nL : a ≠ X.env.locals := fun z => nfr (by rw [z]; exact Lin)
  have nF : a ∉ X.fs := fun hm => nfr (by
    obtain ⟨e, y, q⟩ := List.mem_filterMap.mp hm
    exact List.mem_filterMap.mpr ⟨e, .tail _ y, q⟩)
  have S3 := J3.suite at3 d3 na nL nF
  have look : PySem.W.Looks (model X.prog X.w) g3 (typeOf (.ref a)) cls := fun _ _ _ _ k q => wpAny_typeOf_ref (k _ _ at3) (z3.1.symm ▸ q)
  refine wpAny_handleBy_cons (codeAny_handlers_test ?_) (fun q => by cases q)
  have named : ∀ {Q : Value → Shared → Prop} {E : Value → Shared → Prop}, Q c { s' with heap := g3 } → wpAny (model X.prog X.w) (X.A.mark (some (.ref a))) (eval (.Name x np) X.env) Q E { s' with heap := g3 } := fun q => by
    rcases hc with ⟨k1, k2, k3 | ⟨k3, k4, k5⟩⟩
    · exact ld_glob (X := X.suite a ((a, o3) :: (X.pn ++ pins))) S3 k1 k3 q k2
    · exact ld_blt (X := X.suite a ((a, o3) :: (X.pn ++ pins))) S3 k1 k3 k4 q k5 k2
  refine named ((PySem.W.exm_one (M := model X.prog X.w) J3.kIn look yes).here ?_)
  refine codeAny_handlers_suite_as (HandSPX.lands_againZ f3 fun g4 f4 up4 => ?_)
  have J4 : Inv X pins σ1 H1 { s' with heap := g4 } := J.landed nb f4.1 ((up.trans up3).trans up4) os ag
  obtain ⟨o4, v4, at4, z4, d4⟩ := f4.there
  have S4 := J4.suite at4 d4 na nL nF
  refine store_ok (X := X.suite a ((a, o4) :: (X.pn ++ pins))) (v := .ref a) S4 hN hi (.inl hln) rfl (fun s5 S5 => ?_) (.inr hln)
  refine wpAny_mono (Q := fun _ _ => False) (wpAny_mono ((hsu a o4 cls d (X.pn ++ pins) (fun u2 s2 => wpAny (model X.prog X.w) (X.A.mark (some (.ref a))) (noteFrame u2 X.env) (fun _ s₃' =>
      wpAny (model X.prog X.w) (X.A.mark (some (.ref a))) (do bindName X.env n .none; unbindBehindTheSuite X.env n pos')
        (fun _ s₄ => wpAny (model X.prog X.w) (X.A.mark (some (.ref a))) (passOn "try.except-as" u2 X.env : Sem Flow) (fun _ _ => False) (fun e7 s7 => X.xe e7 s7) s₄) (fun _ _ => False) s₃') (fun _ _ => False) s2) z4 ⟨_, d4⟩ (fun u2 s2 x2 => ?_)
      ⟨(a, o4), ⟨rfl, v4, d4, z4.2.2 v4 d4⟩, List.mem_cons_self⟩).run [] s5 _ H1 DNo (Inv.unwish (X := suiteE X a ((a, o4) :: (X.pn ++ pins)) _) (E := fun _ _ => False) S5) (go a na)) (fun f s6 q => ?_) fun _ _ q => q) (fun _ _ q => q.elim) (fun e6 s6 q => ?_)
  · obtain ⟨a2, B2, sI2, pn2, σ2, H2, cls2, d2, rfl, K2, nb2, up2, sky2, na2, os2, ag2, w2⟩ := x2
    have J2 : Inv X pins σ2 H2 sI2 := Inv.unsuite (X := X) (a := a) (q := (a, o4)) (pn' := pn2) (Inv.wish (X := suiteE X a ((a, o4) :: (X.pn ++ pins)) _) K2 fun _ _ => False) ok
    have sky2' : Sky B2 (X.env :: X.outer) a2 (Zc cls2 d2) X.env.locals s2.heap := by
      rw [← hs]
      exact sky2
    have held : ∀ {Q : Unit → Shared → Prop}, (∀ g, HandSPX.HeldZ B2 (X.env :: X.outer) a2 (Zc cls2 d2) X.env.locals g → s2.heap.UpToSlots g → Q () { s2 with heap := g }) →
        wpAny (model X.prog X.w) (X.A.mark (some (.ref a))) (noteFrame (.ref a2) X.env) Q (fun _ _ => False) s2 := fun {Q} k => by
      rcases sky2' with ⟨y1, y2, y3, oe, vs, y4, y5, y6, y7⟩ | y | y
      · exact HandSPX.look_newZ Zc.steady hfr y3 hf y4 y1 y2 y6 y7 y5 k
      · exact HandSPX.looks_onZ Zc.steady hfr hf y k
      · exact HandSPX.againZ hf y.2.2.2 (k _ y (Heap.UpToSlots.refl _))
    refine held fun g5 hd5 up5 => ?_
    obtain ⟨m2, hm2, hl2⟩ := id J2.loc
    have nsL : g5.Ns X.env.locals m2 := (up2.trans up5).ns hm2
    refine wpAny_nameGoes_keeps hln nsL (by rw [ok.kind]; rfl) fun g6 v6 hn6 hs6 => ?_
    obtain ⟨oL, esL, epL, atL, dL, kL, fL⟩ := hn6
    have recL : ∀ vs, oL.data ≠ .fields vs := fun vs z => by
      rw [dL] at z
      cases z
    obtain ⟨b1, b2, b3, oe, vs, T, oT, tv, t1, t2, t3, t4, t5, t6, t7, t8, t9⟩ := hd5
    obtain ⟨BL, oL5, atL5, recL5⟩ := b3.mem Lin
    have aL : a2 ≠ X.env.locals := fun z => by
      rw [z, atL5] at t1
      cases t1
      exact recL5 _ t3
    have TL : T ≠ X.env.locals := fun z => by
      rw [z, atL5] at t7
      cases t7
      exact recL5 _ t8
    have hd6 : HandSPX.HeldZ B2 (X.env :: X.outer) a2 (Zc cls2 d2) X.env.locals g6 :=
      ⟨fun b o e => (hs6.2 b fun z => by rw [z, BL] at e; cases e).trans (b1 b o e), b2, frames_but hs6 ⟨oL, atL, recL⟩ b3, oe, vs, T, oT, tv, (hs6.2 _ aL).trans t1, t2, t3, t4, t5, t6, (hs6.2 _ TL).trans t7, t8, t9⟩
    -- the state without it: the frame's dict as it is now
    obtain ⟨oI, _, _, atI, _⟩ := hm2
    have frz : oL.isFreed = false := (Heap.get?_some_iff.mp atL).2
    have gL : (sI2.heap.update X.env.locals (fun _ => oL)).get? X.env.locals = some oL := Heap.get?_update_self (fun _ => oL) atI frz
    have gO : ∀ b, b ≠ X.env.locals → (sI2.heap.update X.env.locals (fun _ => oL)).get? b = sI2.heap.get? b := fun b hb => Heap.get?_update_other _ _ (Ne.symm hb)
    have J7 : Inv X pins (σ2.set i none) H2 { sI2 with heap := sI2.heap.update X.env.locals (fun _ => oL), toks := sI2.toks } :=
      Inv_gone J2 hN hi nc hl2 ⟨oL, esL, epL, gL, dL, kL, fL⟩ ⟨by simp, gO⟩
    unfold PySem.passOn
    refine wpAny_bind (wpAny_field ((hs6.2 _ aL).trans t1) t3 t4 ?_)
    rw [if_neg (show ¬ ((Value.ref T == Value.none) = true) by simp)]
    have fly : wpAny (model X.prog X.w) (X.A.mark (some (.ref a))) (setFlight (.ref a2) X.env.frame) (fun _ s8 => wpAny (model X.prog X.w) (X.A.mark (some (.ref a))) (throw (.ref a2) : Sem Flow) (fun _ _ => False) (fun e7 s7 => X.xe e7 s7) s8) (fun e7 s7 => X.xe e7 s7) { s2 with heap := g6, toks := s2.toks + 1 } := by
      rw [hf]
      refine HandSPX.setFlight_onZ hd6 fun g8 hd8 up8 => wpAny_throw (tk _ _ ?_)
      refine ⟨a2, B2, { sI2 with heap := sI2.heap.update X.env.locals (fun _ => oL), toks := sI2.toks }, pins, _, H2, cls2, d2, rfl, J7, fun b o e hb => ?_, fun b o e r => ?_, .inr (.inr (by rw [hs]; exact hd8)), na2, os2, ag2, hW _ _ _ _ _ w2⟩
      · have bL : b ≠ X.env.locals := fun z => hb (by rw [hs, z]; exact Lin)
        exact nb2 b o ((gO b bL).symm.trans e) hb
      · show ∃ sl, g8.get? b = some { o with slots := sl }
        by_cases bL : b = X.env.locals
        · have e2 := bL ▸ e
          rw [gL] at e2
          cases e2
          rw [bL]
          exact up8 _ oL atL recL
        · obtain ⟨sl5, e5⟩ := (up2.trans up5) b o ((gO b bL).symm.trans e) r
          obtain ⟨sl8, e8⟩ := up8 b _ ((hs6.2 b bL).trans e5) r
          exact ⟨sl8, e8⟩
    first
      | exact wpAny_bind (wpAny_pure (wpAny_bind fly))
      | exact wpAny_bind fly
  · cases f with
    | next =>
      obtain ⟨_, _, _, q⟩ := q
      exact q
    | ret u =>
      obtain ⟨_, _, _, _, _, q⟩ := q
      exact q
    | brk =>
      obtain ⟨_, _, _, q⟩ := q
      exact q
    | cont =>
      obtain ⟨_, _, _, q⟩ := q
      exact q
  · refine wpAny_mono q (fun _ s7 q7 => wpAny_mono q7 (fun _ s8 q8 => wpAny_mono q8 (fun _ _ y => y) fun e9 s9 y => ?_) fun _ _ y => y.elim) fun _ _ y => y.elim
    exact hpa (some (.ref a)) e9 s9 y
end
end BR
/-! BrHead: what the top leaves, read by a Hook of my own: the defs, facts by names, the written tables, the error class -/
namespace BR
open PySem PySem.Spec PyProof.Rows L2
/-! ### tables by addresses -/
def tupG (K : PySem.W.Frag) (a : Addr) (vs : List V) : Bool := match K.lookup a with
  | some ⟨.type c, _, .seq its _, _⟩ => decide (c = "tuple") && (decide (its.size ≤ sizeLine) && He.relAll vs its.toList)
  | _ => false
theorem tupG_ok {K : PySem.W.Frag} {a : Addr} {vs : List V} (h : tupG K a vs = true) (H : Hp) : SqT K H a vs := by
  unfold tupG at h
  cases q : K.lookup a with
  | none =>
    rw [q] at h
    cases h
  | some o =>
    obtain ⟨oc, od, dt, osl⟩ := o
    rw [q] at h
    cases oc with
    | type c =>
      cases dt with
      | seq its n =>
        obtain ⟨h1, h2⟩ := He.ba (show (decide (c = "tuple") && (decide (its.size ≤ sizeLine) && He.relAll vs its.toList)) = true from h)
        obtain ⟨h3, h4⟩ := He.ba h2
        exact .inr ⟨_, its, n, q, congrArg Value.type (of_decide_eq_true h1), rfl, of_decide_eq_true h3, He.relAll_ok h4⟩
      | _ => cases h
    | _ => cases dt <;> cases h
def itA (K : PySem.W.Frag) (a : Addr) (i : Nat) : Addr := match K.lookup a with
  | some ⟨_, _, .seq its _, _⟩ => (match its.toList[i]? with | some (.ref b) => b | _ => 0)
  | _ => 0
/-- a tuple of tuples -/
def tupsG (K : PySem.W.Frag) (x : Str) (rows : List (List V)) : Bool :=
  tupG K (He.ga K x) ((List.range rows.length).map fun i => V.ref (itA K (He.ga K x) i)) && ((List.range rows.length).all fun i => tupG K (itA K (He.ga K x) i) (rows.getD i []))
theorem tupsG_ok {K : PySem.W.Frag} {x : Str} {rows : List (List V)} (h : tupsG K x rows = true) (H : Hp) :
    SqT K H (He.ga K x) ((List.range rows.length).map fun i => V.ref (itA K (He.ga K x) i)) ∧ ∀ i, i < rows.length → SqT K H (itA K (He.ga K x) i) (rows.getD i []) := by
  obtain ⟨h1, h2⟩ := He.ba h
  exact ⟨tupG_ok h1 H, fun i hi => tupG_ok (List.all_eq_true.mp h2 i (List.mem_range.mpr hi)) H⟩
def marksV : List V := [45, 46, 47, 58, 61, 95, 32, 44, 59].map V.int
def classesV : List (List V) := [[5, 0, 0, 24], [6, 48, 24, 8], [8, 224, 32, 31], [15, 32640, 63, 62], [16, 65404, 125, 132]].map (·.map V.int)
def fixS : List (Str × Str) := [(":method", "GET"), (":method", "PUT"), (":method", "POST"), (":path", "/"), (":scheme", "http"), (":authority", ""), (":status", "200"), (":status", "304"), (":status", "404"), ("accept", ""),
  ("accept-language", ""), ("age", ""), ("cache-control", ""), ("content-length", ""), ("content-type", ""), ("date", ""), ("etag", ""), ("host", ""), ("if-none-match", ""), ("last-modified", ""), ("location", ""), ("range", ""), ("vary", "")]
def fixedV : List (List V) := fixS.map fun p => [V.str p.1, V.str p.2]
/-! ### the error class -/
def hfC (K : PySem.W.Frag) : Addr := He.ga K "HeadFault"
def hfI (K : PySem.W.Frag) : Addr := He.ma K (hfC K) "__init__"
def hfCell (K : PySem.W.Frag) : Addr := match K.lookup (hfI K) with
  | some ⟨_, _, .func fd, _⟩ => (match fd.closure with
    | [(_, c)] => c
    | _ => 0)
  | _ => 0
def hfCode (K : PySem.W.Frag) : Addr := match K.lookup (hfI K) with
  | some ⟨_, _, .func fd, _⟩ => (match fd.code with | .ref a => a | _ => 0)
  | _ => 0
/-- the class object -/
def hfB1 (K : PySem.W.Frag) : Bool := match K.lookup (hfC K) with
  | some ⟨.type c, _, .cls cd, sl⟩ => (match sl.toList with
    | [_, _, _, _, some (.builtin n), _] => decide (c = "type") && (decide (n = "ValueError.__new__") && (decide (cd.mro = .ref (hfC K) :: He.veBase) && (!cd.hasDel && cd.hasDict)))
    | _ => false)
  | _ => false
/-- its facts by names -/
def hfB2 (K : PySem.W.Frag) : Bool :=
  He.eqO (PySem.W.findIn K (.ref (hfC K)) "__setattr__") (some (some (.builtin "object.__setattr__"))) && (He.eqO (PySem.W.findIn K (.ref (hfC K)) "__getattribute__") (some (some (.builtin "BaseException.__getattribute__"))) && (He.eqO (PySem.W.findIn K (.ref (hfC K)) "__getattr__") (some none) &&
  (He.eqO (PySem.W.findIn K (.ref (hfC K)) "word") (some none) && (He.eqO (PySem.W.findIn K (.ref (hfC K)) "at") (some none) && (He.eqO (PySem.W.findIn K (.ref (hfC K)) "__init__") (some (some (.ref (hfI K)))) &&
  (decide (PySem.W.typeIn K (.ref (hfI K)) = some (.type "function")) && (PySem.W.keepIn K (.ref (hfC K)) && (decide (PySem.W.subIn K (.ref (hfC K)) (.type "BaseException") = some true) && (decide (PySem.W.subIn K (.ref (hfC K)) (.type "ValueError") = some true) &&
  (decide (PySem.W.typeIn K (.ref (hfC K)) = some (.type "type")) && (PySem.W.hasDictIn K (hfC K) && (decide (PySem.W.exmOne K (.ref (hfC K)) (.ref (hfC K)) = some true) &&
  (decide (PySem.W.ks_superIn K (hfC K) (hfC K) "__init__" = some (some (.builtin "ValueError.__init__"))) && (decide (PySem.W.mroIn K (hfC K) (.ref (hfC K)) = some true) && decide (PySem.W.nsIn K PySem.cStatics "thirdparty.any" = some none)))))))))))))))
/-- its __init__: the function's cell, code -/
def hfB3 (K : PySem.W.Frag) : Bool := (match K.lookup (hfI K) with
  | some ⟨_, _, .func fd, _⟩ => decide (fd.closure = [(("__class__" : Str), hfCell K)]) && (decide (fd.code = .ref (hfCode K)) && (PySem.W.codeIn K fd.code "HeadFault.__init__" && (match fd.defaults with
    | .none => true
    | _ => false)))
  | _ => false) && ((match K.lookup (hfCell K) with
  | some ⟨_, _, .cell (some (.ref D)), _⟩ => decide (D = hfC K)
  | _ => false) && (match K.lookup (hfCode K) with
  | some ⟨_, _, .fields vs, _⟩ => (match vs[2]? with
    | some (Value.str z _) => decide (z = ("/claim/cut.py" : Str))
    | _ => false)
  | _ => false))
def exB (K : PySem.W.Frag) : Bool := tupG K (He.ga K "MARKS") marksV && (tupsG K "CLASSES" classesV && (tupsG K "FIXED" fixedV && (hfB1 K && (hfB2 K && hfB3 K))))
/-! ### the defs -/
def dD (x : Str) (s : Stmt) : He.DefD := ⟨(x, none), x, x, defArgs s, defBody s, defScope s, [], []⟩
def dM (c x q : Str) (s : Stmt) : He.DefD := ⟨(c, some x), x, q, defArgs s, defBody s, defScope s, [], []⟩
def fn1 : List He.DefD := [dD "named_below" sNamedBelow, dD "octet_of_rank" sOctetOfRank, dD "octet_of" sOctetOf, dD "decoded" sDecoded, dD "to_octets" sToOctets, dD "fixed_row" sFixedRow, dD "row_size" sRowSize,
  dM "MovingTable" "__init__" "MovingTable.__init__" sMtI, dM "MovingTable" "room" "MovingTable.room" sMtRoom, dM "MovingTable" "rows" "MovingTable.rows" sMtRows, dM "MovingTable" "shrink" "MovingTable.shrink" sMtShrink,
  dM "MovingTable" "resize" "MovingTable.resize" sMtResize, dM "MovingTable" "add" "MovingTable.add" sMtAdd, dM "MovingTable" "row" "MovingTable.row" sMtRow, dD "read_int" sReadInt, dD "read_string" sReadString,
  dM "Unpacker" "__init__" "Unpacker.__init__" sUnI, dM "Unpacker" "table" "Unpacker.table" sUnTable, dM "Unpacker" "read_rooms" "Unpacker.read_rooms" sUnRooms, dM "Unpacker" "read_pair" "Unpacker.read_pair" sUnPair,
  dM "Unpacker" "known" "Unpacker.known" sUnKnown, dM "Unpacker" "unpack" "Unpacker.unpack" sUnpack]
def fn2 : List He.DefD := [dD "_law_draw" sDraw, dD "_law_take" sTake, dD "_law_int" sInt, dD "_law_order" sOrder, dD "_law_words" sWords, dD "_law_coded" sCoded, dD "_law_decoded" sLDecoded, dD "_law_fixed" sLFixed, dD "_law_octets" sOctets,
  dD "_law_pair" sPair, dD "_law_total" sTotal, dD "_law_fit" sFit, dD "_law_add" sAdd, dD "_law_read" sRead, dD "_law_read_string" sLReadString, dD "_law_read_pair" sReadPair, dD "_law_unpack" sLUnpack, dD "_law_wide" sWide,
  dD "_law_string" sString, dD "_law_part" sPart, dD "_law_block" sBlock, dD "law" sLaw]
def fnL : List He.DefD := fn1 ++ fn2
/-- free names -/
def frN : List Str := ["len", "range", "tuple", "list", "int", "abs", "ord", "sum", "min", "max", "isinstance", "str", "ValueError", "super"]
/-- the module's names of objects -/
def gloN1 : List Str := ["HeadFault", "MARKS", "CLASSES", "FIXED", "MovingTable", "Unpacker", "named_below", "octet_of_rank", "octet_of", "decoded", "to_octets", "fixed_row", "row_size", "read_int", "read_string"]
def gloN2 : List Str := ["_law_draw", "_law_take", "_law_int", "_law_order", "_law_words", "_law_coded", "_law_decoded", "_law_fixed", "_law_octets", "_law_pair", "_law_total", "_law_fit", "_law_add", "_law_read", "_law_read_string", "_law_read_pair", "_law_unpack", "_law_wide",
  "_law_string", "_law_part", "_law_block", "law"]
def intN : List (Str × Int) := [("END", 256), ("LETTERS", 26), ("DIGITS", 36), ("PLAIN", 45), ("NAMED", 71), ("EXTRA", 32), ("GREATEST", 2147483647), ("MORE", 5)]
/-- (class, a name that it has no attribute of) -/
def noN : List (Str × Str) := [("MovingTable", "bound"), ("MovingTable", "total"), ("MovingTable", "kept"), ("Unpacker", "limit"), ("Unpacker", "rows")]
def meN : List (Str × Str) := [("MovingTable", "room"), ("MovingTable", "rows"), ("MovingTable", "shrink"), ("MovingTable", "resize"), ("MovingTable", "add"), ("MovingTable", "row"), ("Unpacker", "table"), ("Unpacker", "read_rooms"), ("Unpacker", "read_pair"), ("Unpacker", "known"), ("Unpacker", "unpack")]
def faL : List He.Fa := frN.map He.Fa.free ++ (gloN1.map He.Fa.glo ++ (gloN2.map He.Fa.glo ++ (intN.map (fun p => He.Fa.int p.1 p.2) ++ (noN.map (fun p => He.Fa.noat p.1 p.2) ++ (meN.map (fun p => He.Fa.meth p.1 p.2) ++ [.cls "MovingTable", .cls "Unpacker", .mkr "MovingTable", .mkr "Unpacker"])))))
/-! ### the Hook -/
/-- what stands of its __init__, but its cells -/
def hfW (K : PySem.W.Frag) : He.FnW := match He.fnW K ("HeadFault", some "__init__") with
  | some (a, b, c, d, e, f, _, g) => some (a, b, c, d, e, f, [], g)
  | none => none
def hfV : He.FnW := some ("__init__", "HeadFault.__init__", defArgs sHfI, .stmts (defBody sHfI), defScope sHfI, mainGlobals, [], builtinsNs)
abbrev Al2 : Type := He.AlD × (Bool × He.FnW)
def obs2 (K : PySem.W.Frag) : Al2 := (He.obsD faL fnL K, exB K, hfW K)
def val2 : Al2 := (He.valD fnL, true, hfV)
def Says2 (K : PySem.W.Frag) : Prop := obs2 K = val2
def obsG2 (g : Addr → Option Obj) : Al2 := obs2 (He.frG g (PySem.cStatics :: He.asD g 4))
def hook2 : PySem.W.Hook where
  α := Al2
  obs := fun s => obsG2 s.heap.get?
  val := fun _ => val2
  says := fun _ h => ∃ K : PySem.W.Frag, K.In h ∧ Says2 K
  of := fun _ _ e => ⟨_, He.frG_in, e⟩
  keeps := fun _ _ _ ⟨K, there, said⟩ k => ⟨K, PySem.W.Frag.In.keeps there k, said⟩
abbrev R : PySem.W.OpenRow := PySem.W.OpenLaw.row PySem.Challenge.rw_ownanswer_k25_blocks_read
def ob (s : PySem.W.SharedT) : Al2 := obsG2 (HandSHeadRun.getT s)
theorem ob_eq (s : PySem.W.SharedT) : ob s = hook2.obs s.abs := by
  have e : HandSHeadRun.getT s = s.abs.heap.get? := funext (HandSHeadRun.getT_eq s)
  show obsG2 (HandSHeadRun.getT s) = obsG2 s.abs.heap.get?
  rw [e]
def loose1 : List Str := ["_wall", "HeadFault", "MARKS", "CLASSES", "END", "LETTERS", "DIGITS", "PLAIN", "NAMED", "named_below", "octet_of_rank", "octet_of", "decoded", "to_octets", "FIXED", "fixed_row", "EXTRA", "row_size", "MovingTable", "GREATEST", "MORE", "read_int", "read_string", "Unpacker"]
def loose2 : List Str := ["_law_draw", "_law_take", "_law_int", "_law_order", "_law_words", "_law_coded", "_law_decoded", "_law_fixed", "_law_octets", "_law_pair", "_law_total", "_law_fit", "_law_add", "_law_find", "_law_read", "_law_read_string", "_law_read_pair", "_law_unpack", "_law_wide", "_law_string", "_law_part", "_law_block"]
def loose : List Str := loose1 ++ loose2
theorem headRun (w : World) : HandSHeadRun.RunEq R (PySem.W.view R.prog [54]) hook2 ob 4000 loose w := by
  intro os
  kernel_rfl
end BR
/-! BrBase: promises by names, frames, the data that stand in the heap -/
namespace BR
open PySem PySem.Spec PyProof.Rows L2
/-! ### promises by names -/
/-- the module's name x is a def that keeps sp -/
structure HasF (P : Program) (w : World) (K : PySem.W.Frag) (mg : Str → Option Value) (base : Heap) (CX : CXT) (k : Nat) (x : Str) (ps : List Str) (sp : Sp) : Prop where
  ex : ∃ (f : Addr) (fd : FuncData), FnOk P w K mg base CX k f fd ps sp ∧ mg x = some (.ref f) ∧ PySem.W.keepIn K (.ref f) = true ∧ Binds K fd ps []
/-- the class at C has the method m that keeps sp -/
structure HasM (P : Program) (w : World) (K : PySem.W.Frag) (mg : Str → Option Value) (base : Heap) (CX : CXT) (k : Nat) (C : Addr) (m : Str) (ps : List Str) (sp : Sp) : Prop where
  ex : ∃ (f : Addr) (fd : FuncData), FnOk P w K mg base CX k f fd ps sp ∧ Meth K C m f ∧ Binds K fd ps []
section
variable {X : Cx} {CX : CXT} {k : Nat} {x m : Str} {C : Addr} {ps : List Str} {sp : Sp} {E : XK} {e o : Expr} {es : List Expr} {t : TA} {to : TE} {p pos apos : Pos}
theorem pe_f (G : HasF X.prog X.w X.K X.mg X.base CX k x ps sp) (hr : Room k X.A) (hx : Passes CX X E) (ha : PA X (e :: es) t) (hg : Gl X x := by rfl)
    (hdb : (x == ("__debug__" : Str)) = false := by decide) (he : starEach (e :: es) X.env = (false, eval e X.env) :: starEach es X.env := by rfl) (hpl : (backTo pos (starEach es X.env)).any (·.1) = false := by rfl) : PE X (.Call (.Name x p) (e :: es) [] pos) (tCall sp [] E t) := by
  obtain ⟨f, fd, F, g, kp, b⟩ := G.ex
  exact pe_call F hr hg g kp b .nil hx ha hdb he hpl
theorem pe_f0 (G : HasF X.prog X.w X.K X.mg X.base CX k x ps sp) (hr : Room k X.A) (hx : Passes CX X E) (hg : Gl X x := by rfl)
    (hdb : (x == ("__debug__" : Str)) = false := by decide) : PE X (.Call (.Name x p) [] [] pos) (tCall sp [] E tNil) := by
  obtain ⟨f, fd, F, g, kp, b⟩ := G.ex
  exact pe_call0 F hr hg g kp b .nil hx hdb
end
/-! ### rules whose reading names the written part (within a comprehension) -/
section
variable {X : Cx}
theorem ix_listK (K : PySem.W.Frag) (h : X.K = K) : IxR X (rIxL K) := by
  subst h
  exact ix_list
theorem ix_tupK (K : PySem.W.Frag) (h : X.K = K) : IxR X (rIxT K) := by
  subst h
  exact ix_tup
theorem op_notIn_seqK (K : PySem.W.Frag) (h : X.K = K) : OpR X (compareOp .NotIn) (rIn K true) := by
  subst h
  exact op_notIn_seq
def rLenK (K : PySem.W.Frag) : List V → Hp → VK → Prop := fun xs H Q => ∃ p ys, xs = [.ref p] ∧ (SqL K H p ys ∨ SqT K H p ys) ∧ Q (.int ys.length) H
theorem call_len_seqK (K : PySem.W.Frag) (h : X.K = K) : CallR X (.builtin "len") (rLenK K) := by
  subst h
  exact call_len_seq
end
/-! ### frames -/
/-- all that was tracked stands, but what stands at m -/
def Fr (m : Addr) (H H' : Hp) : Prop := ∀ b o, b ≠ m → H b = some o → H' b = some o
theorem Fr.refl (m : Addr) (H : Hp) : Fr m H H := fun _ _ _ e => e
theorem Fr.trans {m : Addr} {H H1 H2 : Hp} (a : Fr m H H1) (b : Fr m H1 H2) : Fr m H H2 := fun c o n e => b c o n (a c o n e)
theorem Fr.of {m : Addr} {H H' : Hp} (a : Same H H') : Fr m H H' := fun b o _ e => a b o e
theorem Fr.new {m p : Addr} {H : Hp} {o : HO} (h : H p = none) : Fr m H (upd H p o) := fun b u _ e => by
  rw [upd_ne (ne_of_none e h)]
  exact e
theorem Fr.own {m : Addr} {H : Hp} {o : HO} : Fr m H (upd H m o) := fun b u n e => by
  rw [upd_ne n]
  exact e
theorem _root_.L2.Same.nw {p : Addr} {H : Hp} {o : HO} (h : H p = none) : Same H (upd H p o) := fun b u e => by
  rw [upd_ne (ne_of_none e h)]
  exact e
theorem _root_.L2.Same.nwr {p : Addr} {H H1 : Hp} {o : HO} (s : Same H H1) (h : H1 p = none) : Same H (upd H1 p o) := s.trans (Same.nw h)
theorem Fr.newer {m p : Addr} {H H1 : Hp} {o : HO} (s : Fr m H H1) (h : H1 p = none) : Fr m H (upd H1 p o) := s.trans (Fr.new h)
theorem Fr.owner {m : Addr} {H H1 : Hp} {o : HO} (s : Fr m H H1) : Fr m H (upd H1 m o) := s.trans Fr.own
/-- a change at p, which was not there at H -/
theorem _root_.L2.Same.putN {p : Addr} {H H1 : Hp} {o : HO} (s : Same H H1) (h : H p = none) : Same H (upd H1 p o) := fun b u e => by
  rw [upd_ne (ne_of_none e h)]
  exact s b u e
theorem Fr.put {m p : Addr} {H H1 : Hp} {o : HO} (s : Fr m H H1) (h : H p = none) : Fr m H (upd H1 p o) := fun b u n e => by
  rw [upd_ne (ne_of_none e h)]
  exact s b u n e
theorem Fr.free {m p : Addr} {H H' : Hp} (f : Fr m H H') (h : H' p = none) (n : p ≠ m) : H p = none := by
  cases e : H p with
  | none => rfl
  | some o =>
    have q := f p o n e
    rw [h] at q
    cases q
/-- no tuple stands there -/
def NT (H : Hp) (m : Addr) : Prop := ∀ xs, H m ≠ some (.tup xs)
theorem nt_lst {H : Hp} {m : Addr} {xs : List V} (h : H m = some (.lst xs)) : NT H m := fun ys e => by
  rw [h] at e
  cases e
theorem nt_ins {H : Hp} {m C dx : Addr} {fs : List (Str × V)} (h : H m = some (.ins C dx fs)) : NT H m := fun ys e => by
  rw [h] at e
  cases e
theorem nt_dK {H : Hp} {m : Addr} {kvs : List (Key × V)} (h : H m = some (.dK kvs)) : NT H m := fun ys e => by
  rw [h] at e
  cases e
theorem Fr.tup {m a : Addr} {H H' : Hp} {xs : List V} (f : Fr m H H') (n : NT H m) (h : H a = some (.tup xs)) : H' a = some (.tup xs) := f a _ (fun e => n xs (e ▸ h)) h
/-- tuples stand -/
def KT (H H' : Hp) : Prop := ∀ a xs, H a = some (.tup xs) → H' a = some (.tup xs)
theorem KT.refl (H : Hp) : KT H H := fun _ _ e => e
theorem KT.trans {H H1 H2 : Hp} (a : KT H H1) (b : KT H1 H2) : KT H H2 := fun c xs e => b c xs (a c xs e)
theorem _root_.L2.Same.kt {H H' : Hp} (s : Same H H') : KT H H' := fun a xs e => s a _ e
theorem Fr.kt {m : Addr} {H H' : Hp} (f : Fr m H H') (n : NT H m) : KT H H' := fun _ _ e => f.tup n e
/-! ### data -/
/-- a tuple of ints -/
def TI (H : Hp) (v : V) (ns : List Int) : Prop := ∃ t, v = .ref t ∧ H t = some (.tup (ns.map V.int))
theorem TI.kt {H H' : Hp} {v : V} {ns : List Int} (h : TI H v ns) (k : KT H H') : TI H' v ns := by
  obtain ⟨t, e, h⟩ := h
  exact ⟨t, e, k t _ h⟩
/-- a pair: a tuple of two tuples of ints -/
def TP (H : Hp) (v : V) (p : Pr) : Prop := ∃ t a b, v = .ref t ∧ H t = some (.tup [a, b]) ∧ TI H a p.1 ∧ TI H b p.2
theorem TP.kt {H H' : Hp} {v : V} {p : Pr} (h : TP H v p) (k : KT H H') : TP H' v p := by
  obtain ⟨t, a, b, e, h, h1, h2⟩ := h
  exact ⟨t, a, b, e, k t _ h, h1.kt k, h2.kt k⟩
/-- item by item -/
inductive All2 {α β : Type} (R : α → β → Prop) : List α → List β → Prop where
  | nil : All2 R [] []
  | cons {a : α} {b : β} {l : List α} {r : List β} : R a b → All2 R l r → All2 R (a :: l) (b :: r)
namespace All2
variable {α β : Type} {R S : α → β → Prop} {l l' : List α} {r r' : List β}
theorem imp (h : All2 R l r) (f : ∀ a b, R a b → S a b) : All2 S l r := by
  induction h with
  | nil => exact .nil
  | cons a _ ih => exact .cons (f _ _ a) ih
theorem length (h : All2 R l r) : l.length = r.length := by
  induction h with
  | nil => rfl
  | cons _ _ ih => simp [ih]
theorem append (h : All2 R l r) (h' : All2 R l' r') : All2 R (l ++ l') (r ++ r') := by
  induction h with
  | nil => exact h'
  | cons a _ ih => exact .cons a ih
theorem take (h : All2 R l r) : ∀ n : Nat, All2 R (l.take n) (r.take n) := by
  induction h with
  | nil =>
    intro n
    rw [List.take_nil, List.take_nil]
    exact .nil
  | cons a _ ih =>
    intro n
    cases n with
    | zero => exact .nil
    | succ n => exact .cons a (ih n)
theorem get (h : All2 R l r) : ∀ {n : Nat} {b : β}, r[n]? = some b → ∃ a, l[n]? = some a ∧ R a b := by
  induction h with
  | nil =>
    intro n b e
    cases e
  | cons a _ ih =>
    intro n b e
    cases n with
    | zero =>
      cases e
      exact ⟨_, rfl, a⟩
    | succ n => exact ih e
theorem getL (h : All2 R l r) : ∀ {n : Nat} {a : α}, l[n]? = some a → ∃ b, r[n]? = some b ∧ R a b := by
  induction h with
  | nil =>
    intro n b e
    cases e
  | cons a _ ih =>
    intro n b e
    cases n with
    | zero =>
      cases e
      exact ⟨_, rfl, a⟩
    | succ n => exact ih e
end All2
/-- a list of pairs -/
def Rows (H : Hp) (l : Addr) (rows : List Pr) : Prop := ∃ vs, H l = some (.lst vs) ∧ All2 (TP H) vs rows
/-- the items of such a list -/
abbrev RowsV (H : Hp) (vs : List V) (rows : List Pr) : Prop := All2 (TP H) vs rows
theorem rowsV_kt {H H' : Hp} {vs : List V} {rows : List Pr} (h : RowsV H vs rows) (k : KT H H') : RowsV H' vs rows := h.imp fun _ _ x => x.kt k
/-- the items of a list of refs are no ints -/
theorem rowsV_ref {H : Hp} {vs : List V} {rows : List Pr} (h : RowsV H vs rows) : ∀ (i : Int), V.int i ∉ vs := by
  induction h with
  | nil =>
    intro i e
    cases e
  | cons a _ ih =>
    intro i e
    rcases List.mem_cons.mp e with e | e
    · obtain ⟨t, _, _, e2, _⟩ := a
      rw [e2] at e
      cases e
    · exact ih i e
/-! ### lists of ints -/
theorem map_at {ns : List Int} {i : Nat} {v : V} (h : (ns.map V.int)[i]? = some v) : ∃ n, ns[i]? = some n ∧ v = .int n := by
  rw [List.getElem?_map] at h
  cases e : ns[i]? with
  | none =>
    rw [e] at h
    cases h
  | some n =>
    rw [e] at h
    cases h
    exact ⟨n, rfl, rfl⟩
theorem at_map {ns : List Int} {i : Nat} {n : Int} (h : ns[i]? = some n) : (ns.map V.int)[i]? = some (.int n) := by
  rw [List.getElem?_map, h]
  rfl
theorem size_ok {n : Nat} (h : n ≤ 1000000) : n ≤ sizeLine := Nat.le_trans h (by decide)
theorem size_lt {n : Nat} (h : n ≤ 1000000) : n < sizeLine := Nat.lt_of_le_of_lt h (by decide)
theorem atI_int {α : Type} {xs : List α} {v : Int} {x : α} (h : xs[v.toNat]? = some x) (h0 : 0 ≤ v) : atI xs v = some x := by
  have q := atI_nat h
  rwa [Int.toNat_of_nonneg h0] at q
theorem rd_cat {a b : Addr} {xs zs : List V} {H : Hp} {Q : VK} (ha : H a = some (.lst xs)) (hb : H b = some (.lst zs)) (hl : xs.length + zs.length ≤ 1000000) (h : ∀ p H', Same H H' → H p = none → H' p = some (.lst (xs ++ zs)) → Q (.ref p) H') : rCat (.ref a) (.ref b) H Q :=
  ⟨a, b, xs, zs, rfl, rfl, ha, hb, size_ok hl, fun p hp => h p _ (Same.nw hp) hp upd_same⟩
/-! ### slices -/
theorem take_min {α : Type} (l : List α) (k : Nat) : l.take (min k l.length) = l.take k := by
  by_cases h : k ≤ l.length
  · rw [Nat.min_eq_left h]
  · rw [Nat.min_eq_right (by omega), List.take_of_length_le (Nat.le_refl l.length), List.take_of_length_le (by omega)]
theorem drop_min {α : Type} (l : List α) (k : Nat) : l.drop (min k l.length) = l.drop k := by
  by_cases h : k ≤ l.length
  · rw [Nat.min_eq_left h]
  · rw [Nat.min_eq_right (by omega), List.drop_of_length_le (Nat.le_refl l.length), List.drop_of_length_le (by omega)]
theorem cut_take (xs : List V) (k : Nat) : cutV xs none (some (k : Int)) = xs.take k := by
  unfold cutV
  rw [HT.sIx_none, HT.sIx_nat, List.drop_zero, Nat.sub_zero, take_min]
theorem cut_drop (xs : List V) (k : Nat) : cutV xs (some (k : Int)) none = xs.drop k := by
  unfold cutV
  rw [HT.sIx_none, HT.sIx_nat, drop_min]
  exact List.take_of_length_le (l := xs.drop k) (by rw [List.length_drop]; omega)
theorem cut_mid (xs : List V) (a b : Nat) (h : b ≤ xs.length) : cutV xs (some (a : Int)) (some (b : Int)) = (xs.drop a).take (b - a) := by
  unfold cutV
  rw [HT.sIx_nat, HT.sIx_nat, drop_min, Nat.min_eq_left h]
  by_cases q : a ≤ xs.length
  · rw [Nat.min_eq_left q]
  · rw [List.drop_of_length_le (by omega), List.take_nil, List.take_nil]
theorem cut_last (xs : List V) (v : V) : cutV (xs ++ [v]) none (some (-1)) = xs := by
  unfold cutV HT.sIx
  simp only [List.length_append, List.length_singleton, List.drop_zero]
  rw [if_pos (by decide), show (-1 + ((xs.length + 1 : Nat) : Int)).toNat - 0 = xs.length by omega, List.take_append_of_le_length (Nat.le_refl _)]
  exact List.take_of_length_le (Nat.le_refl _)
theorem All2.last {α β : Type} {R : α → β → Prop} {r : List β} {b : β} : ∀ {l : List α}, All2 R l (r ++ [b]) → ∃ l' a, l = l' ++ [a] ∧ All2 R l' r ∧ R a b := by
  induction r with
  | nil =>
    intro l h
    cases h with
    | cons x t =>
      cases t
      exact ⟨[], _, rfl, .nil, x⟩
  | cons c r ih =>
    intro l h
    cases h with
    | cons x t =>
      obtain ⟨l', a, rfl, h1, h2⟩ := ih t
      exact ⟨_ :: l', a, rfl, .cons x h1, h2⟩
/-! ### data as the library reads them -/
def dI (ns : List Int) : PyData := .tuple (ns.map .int)
def dP (p : Pr) : PyData := .tuple [dI p.1, dI p.2]
def dR (rows : List Pr) : PyData := .list (rows.map dP)
theorem lay_ints : ∀ ns : List Int, PyData.canLayAll0 (ns.map .int) = true
  | [] => by simp only [List.map_nil, PyData.canLayAll0]
  | n :: ns => by simp [PyData.canLayAll0, PyData.canLay0, lay_ints ns]
theorem deep_ints : ∀ ns : List Int, PyData.depthAll (ns.map .int) = 0
  | [] => by simp only [List.map_nil, PyData.depthAll, Nat.zero_le]
  | n :: ns => by simp [PyData.depthAll, PyData.depth, deep_ints ns]
theorem lay_rows : ∀ rows : List Pr, PyData.canLayAll0 (rows.map dP) = true
  | [] => by simp only [List.map_nil, PyData.canLayAll0]
  | p :: rows => by simp [PyData.canLayAll0, PyData.canLay0, dP, dI, lay_ints, lay_rows rows]
theorem deep_rows : ∀ rows : List Pr, PyData.depthAll (rows.map dP) ≤ 2
  | [] => by simp only [List.map_nil, PyData.depthAll, Nat.zero_le]
  | p :: rows => by
    have := deep_rows rows
    simp only [List.map_cons, PyData.depthAll, dP, dI, PyData.depth, deep_ints]
    omega
theorem shaped_rows (rows : List Pr) : SeqAt.shaped (dR rows) = true := by
  unfold SeqAt.shaped dR
  rw [Bool.and_eq_true_iff]
  refine ⟨by simp only [PyData.canLay0]; exact lay_rows rows, decide_eq_true ?_⟩
  have := deep_rows rows
  simp only [PyData.depth]
  omega
section
variable {K : PySem.W.Frag} {H : Hp}
theorem dp_ints : ∀ ns : List Int, DpAll K H (ns.map V.int) (ns.map .int)
  | [] => .nil
  | n :: ns => .cons (.int n) (dp_ints ns)
theorem TI.dp {v : V} {ns : List Int} (h : TI H v ns) : Dp K H v (dI ns) := by
  obtain ⟨t, rfl, h⟩ := h
  exact .tup (SqT.of h) (dp_ints ns)
theorem TP.dp {v : V} {p : Pr} (h : TP H v p) : Dp K H v (dP p) := by
  obtain ⟨t, a, b, rfl, h, h1, h2⟩ := h
  exact .tup (SqT.of h) (.cons h1.dp (.cons h2.dp .nil))
theorem rows_dp {vs : List V} {rows : List Pr} (h : All2 (TP H) vs rows) : DpAll K H vs (rows.map dP) := by
  induction h with
  | nil => exact .nil
  | cons x _ ih => exact .cons x.dp ih
theorem Rows.dp {l : Addr} {vs : List V} {rows : List Pr} (h : H l = some (.lst vs)) (a : All2 (TP H) vs rows) : Dp K H (.ref l) (dR rows) := .lst (SqL.of h) (rows_dp a)
end
end BR
/-! BrDraw: the facts of the text (Tx); the law's draws: draw, take, int -/
namespace BR
open PySem PySem.Spec PyProof.Rows L2
/-- what the text says by names -/
structure Tx (K : PySem.W.Frag) (mg : Str → Option Value) (mt un hfC hfI hfL hfD aM aC aF : Addr) : Prop where
  len : mg "len" = none
  range : mg "range" = none
  tuple : mg "tuple" = none
  list : mg "list" = none
  int : mg "int" = none
  abs : mg "abs" = none
  ord : mg "ord" = none
  sum : mg "sum" = none
  min : mg "min" = none
  max : mg "max" = none
  isinstance : mg "isinstance" = none
  str : mg "str" = none
  END : ∃ t, mg "END" = some (.int 256 t)
  LETTERS : ∃ t, mg "LETTERS" = some (.int 26 t)
  DIGITS : ∃ t, mg "DIGITS" = some (.int 36 t)
  PLAIN : ∃ t, mg "PLAIN" = some (.int 45 t)
  NAMED : ∃ t, mg "NAMED" = some (.int 71 t)
  EXTRA : ∃ t, mg "EXTRA" = some (.int 32 t)
  GREATEST : ∃ t, mg "GREATEST" = some (.int 2147483647 t)
  MORE : ∃ t, mg "MORE" = some (.int 5 t)
  MARKS : mg "MARKS" = some (.ref aM)
  CLASSES : mg "CLASSES" = some (.ref aC)
  FIXED : mg "FIXED" = some (.ref aF)
  gMt : mg "MovingTable" = some (.ref mt)
  gUn : mg "Unpacker" = some (.ref un)
  cMt : Cls K mt
  cUn : Cls K un
  nBound : NoAttr K mt "bound"
  nTotal : NoAttr K mt "total"
  nKept : NoAttr K mt "kept"
  nLimit : NoAttr K un "limit"
  nRows : NoAttr K un "rows"
  hf : HF K mg hfC hfI hfL hfD
section
variable {X : Cx} {x : Str} {i : Int} {pos : Pos}
theorem pe_gi (h : ∃ t, X.mg x = some (.int i t)) (hg : Gl X x := by rfl) (hd : (x == ("__debug__" : Str)) = false := by decide) : PE X (.Name x pos) (tC (.int i)) := by
  obtain ⟨t, e⟩ := h
  exact pe_glob hg e ⟨t, rfl⟩ (hd := hd)
theorem pe_gr {a : Addr} (h : X.mg x = some (.ref a)) (hg : Gl X x := by rfl) (hd : (x == ("__debug__" : Str)) = false := by decide) : PE X (.Name x pos) (tC (.ref a)) :=
  pe_glob (v := .ref a) hg h rfl hd
end
section
variable {P : Program} {w : World} {K : PySem.W.Frag} {mg : Str → Option Value} {base : Heap}
/-- a def that lets nothing out -/
theorem ok0 {x qual : Str} {st : Stmt} {f : Addr} {fd : FuncData} {N ps : List Str} {k : Nat} {sp : Sp} (F : FnP K x qual st f fd) (S : FnScope N ps (defScope st)) (len : ∀ vs H Q E, sp vs H Q E → vs.length = ps.length)
    (hbody : ∀ (cdv : Value) (A : Around) (outer : List Env) (s : Shared) (H : Hp) (vs : List V) (Q : VK) (E : XK), Room k (A.deeper (envOfC qual (defScope st) s.heap.objs.size f cdv)) → sp vs H Q E → ∃ t, PSs (cxOf CX0 P w K mg base N qual (defScope st) f cdv A outer s H E).nox (defBody st) t ∧ t { nx := fun _ H' => Q .non H', rt := Q } (start N vs) H) : FnOk P w K mg base CX0 (k + 1) f fd ps sp :=
  F.ok S len fun cdv A outer s H vs Q E hr h => by
    obtain ⟨t, a, b⟩ := hbody cdv A outer s H vs Q E hr h
    exact ⟨t, a.nox, b⟩
end
/-! ### the draw -/
/-- the law's draw at d, its cells at c -/
def DrawAt (H : Hp) (d c : Addr) : Prop := ∃ (cells : List Int) (k cur seed : Int), H d = some (.lst [.ref c, .int k, .int cur, .int seed]) ∧ H c = some (.lst (cells.map V.int)) ∧ c ≠ d ∧ (∀ x ∈ cells, 0 ≤ x) ∧ -1 ≤ k ∧ 0 ≤ cur ∧ 0 ≤ seed ∧ seed < 2147483647
def spDraw (K : PySem.W.Frag) : Sp := fun vs H Q _ => ∃ (a : Addr) (ns : List Int), vs = [.ref a] ∧ SqL K H a (ns.map V.int) ∧ ns.length ≤ 63 ∧ ∀ d c H', Same H H' → H d = none → DrawAt H' d c → Q (.ref d) H'
def spTake : Sp := fun vs H Q _ => ∃ (d c : Addr) (m : Int), vs = [.ref d, .int m] ∧ DrawAt H d c ∧ 0 < m ∧ m < 1073741824 ∧ ∀ v H', 0 ≤ v → v < m → Fr d H H' → DrawAt H' d c → Q (.int v) H'
section
variable {P : Program} {w : World} {K : PySem.W.Frag} {mg : Str → Option Value} {base : Heap} {mt un hC hI hL hD aM aC aF : Addr}
theorem sc__law_take : FnScope ["_law_draw_here", "_law_many", "_law_found"] ["_law_draw_here", "_law_many"] (defScope sTake) := ⟨rfl, rfl, rfl, by decide +kernel, rfl, by decide +kernel, by decide +kernel⟩
theorem ok_take {f : Addr} {fd : FuncData} (F : FnP K "_law_take" "_law_take" sTake f fd) (T : Tx K mg mt un hC hI hL hD aM aC aF) : FnOk P w K mg base CX0 1 f fd ["_law_draw_here", "_law_many"] spTake := by
  refine ok0 F sc__law_take (fun vs H Q E h => ?_) (fun cdv A outer s H vs Q E hr h => ?_)
  · obtain ⟨d, c, m, rfl, _⟩ := h
    rfl
  obtain ⟨d, c, m, rfl, D, hm, hm2, k⟩ := h
  refine ⟨_, (C8.pss_cut (ps_if (pt_cmpR op_eq (pe_ix ix_list (pv 0) pe_int (fun _ _ => rfl)) pe_int (nomark _)) (pss_cons (ps_asg (pe_op op_add (pe_ix ix_list (pv 0) pe_int (fun _ _ => rfl)) pe_int) (pg_sub (pv 0) pe_int set_list)) (C8.pss_cut (ps_if (pt_cmpR op_lt (pe_ix ix_list (pv 0) pe_int (fun _ _ => rfl)) (pe_callB call_len_seq (by rfl) T.len (by decide +kernel) (pa_cons (pe_ix ix_list (pv 0) pe_int (fun _ _ => rfl)) pa_nil)) (nomark _)) (pss_one (ps_asg (pe_ix ix_list (pe_ix ix_list (pv 0) pe_int (fun _ _ => rfl)) (pe_ix ix_list (pv 0) pe_int (fun _ _ => rfl)) (fun _ _ => rfl)) (pg_sub (pv 0) pe_int set_list))) pss_nil) (pss_one (ps_if (pt_cmpR op_eq (pe_ix ix_list (pv 0) pe_int (fun _ _ => rfl)) pe_int (nomark _)) (pss_cons (ps_asg (pe_op op_mod (pe_callTy call_int1 (by rfl) T.int (by decide +kernel) (pa_cons (pe_op op_add (pe_op op_mul (pe_ix ix_list (pv 0) pe_int (fun _ _ => rfl)) pe_int) pe_int) pa_nil)) pe_int) (pg_sub (pv 0) pe_int set_list)) (pss_one (ps_asg (pe_ix ix_list (pv 0) pe_int (fun _ _ => rfl)) (pg_sub (pv 0) pe_int set_list)))) pss_nil)))) pss_nil) (pss_cons (ps_set (i := 2) sc__law_take.nd rfl (Or.inl rfl) (pe_op op_mod (pe_callTy call_int1 (by rfl) T.int (by decide +kernel) (pa_cons (pe_ix ix_list (pv 0) pe_int (fun _ _ => rfl)) pa_nil)) (pv 1))) (pss_cons (ps_asg (pe_op op_fdiv (pe_ix ix_list (pv 0) pe_int (fun _ _ => rfl)) (pv 1)) (pg_sub (pv 0) pe_int set_list)) (pss_one (ps_ret (pv 2)))))), ?_⟩
  obtain ⟨cells, kk, cur, seed, hd, hc, ncd, hn, hk, hcur, hs, hs2⟩ := D
  refine ⟨fun σ' H' => ∃ kk cur seed : Int, σ' = [some (.ref d), some (.int m), none] ∧ H' d = some (.lst [.ref c, .int kk, .int cur, .int seed]) ∧ Fr d H H' ∧ -1 ≤ kk ∧ 0 ≤ cur ∧ 0 ≤ seed ∧ seed < 2147483647, ?_, ?_⟩
  · refine ⟨_, rfl, d, _, _, _, rfl, rfl, SqL.of hd, rfl, rfl, _, rfl, ?_⟩
    refine ite2 (fun _ => ?_) (fun _ => ⟨kk, cur, seed, rfl, hd, Fr.refl _ _, hk, hcur, hs, hs2⟩)
    refine ⟨_, rfl, d, _, _, _, rfl, rfl, SqL.of hd, rfl, _, _, rfl, rfl, _, rfl, d, _, _, _, rfl, rfl, hd, rfl, ?_⟩
    -- the next cell
    refine ⟨fun σ' H' => ∃ kk cur : Int, σ' = [some (.ref d), some (.int m), none] ∧ H' d = some (.lst [.ref c, .int kk, .int cur, .int seed]) ∧ Fr d H H' ∧ -1 ≤ kk ∧ 0 ≤ cur, ?_, ?_⟩
    · have h1 : upd H d (.lst [.ref c, .int (kk + 1), .int cur, .int seed]) d = some (.lst [.ref c, .int (kk + 1), .int cur, .int seed]) := upd_same
      have c1 : upd H d (.lst [.ref c, .int (kk + 1), .int cur, .int seed]) c = some (.lst (cells.map V.int)) := by rw [upd_ne ncd]; exact hc
      refine ⟨_, rfl, d, _, _, _, rfl, rfl, SqL.of h1, rfl, _, rfl, d, _, _, _, rfl, rfl, SqL.of h1, rfl, c, _, rfl, .inl (SqL.of c1), _, _, rfl, rfl, _, rfl, ?_⟩
      refine ite2 (fun lt => ?_) (fun _ => ⟨kk + 1, cur, rfl, h1, Fr.own, by omega, hcur⟩)
      have lt' : kk + 1 < (cells.length : Int) := by simpa using lt
      have hlt : (kk + 1).toNat < cells.length := by omega
      have ek : (((kk + 1).toNat : Nat) : Int) = kk + 1 := by omega
      have e1 : cells[(kk + 1).toNat]? = some cells[(kk + 1).toNat] := List.getElem?_eq_getElem hlt
      refine ⟨_, rfl, d, _, _, _, rfl, rfl, SqL.of h1, rfl, _, rfl, d, _, _, _, rfl, rfl, SqL.of h1, rfl, c, _, _, _, rfl, rfl, SqL.of c1, by rw [← ek]; exact atI_nat (at_map e1), _, rfl, d, _, _, _, rfl, rfl, h1, rfl, ?_⟩
      exact ⟨kk + 1, _, rfl, upd_same, Fr.own.owner, by omega, hn _ (List.getElem_mem hlt)⟩
    · rintro σ' H' ⟨k2, c2, rfl, h2, f2, hk2, hc2⟩
      refine ⟨_, rfl, d, _, _, _, rfl, rfl, SqL.of h2, rfl, rfl, _, rfl, ?_⟩
      refine ite2 (fun _ => ?_) (fun _ => ⟨k2, c2, seed, rfl, h2, f2, hk2, hc2, hs, hs2⟩)
      have z : 0 ≤ (seed * 48271 + 11) % 2147483647 ∧ (seed * 48271 + 11) % 2147483647 < 2147483647 := ⟨Int.emod_nonneg _ (by decide), Int.emod_lt_of_pos _ (by decide)⟩
      refine ⟨_, rfl, d, _, _, _, rfl, rfl, SqL.of h2, rfl, _, _, rfl, rfl, .inl ⟨by omega, by omega⟩, _, _, rfl, rfl, .inl ⟨_, rfl, _, _, rfl, rfl, (by show (0 : Int) < 2147483647; decide), _, rfl, d, _, _, _, rfl, rfl, h2, rfl, ?_⟩⟩
      have h3 : upd H' d (.lst [.ref c, .int k2, .int c2, .int ((seed * 48271 + 11) % 2147483647)]) d = some (.lst [.ref c, .int k2, .int c2, .int ((seed * 48271 + 11) % 2147483647)]) := upd_same
      refine ⟨_, rfl, d, _, _, _, rfl, rfl, SqL.of h3, rfl, _, rfl, d, _, _, _, rfl, rfl, h3, rfl, ?_⟩
      exact ⟨k2, _, _, rfl, upd_same, (f2.owner).owner, hk2, z.1, z.1, z.2⟩
  · rintro σ' H' ⟨k2, c2, s2, rfl, h2, f2, hk2, hc2, hs', hs2'⟩
    refine ⟨_, rfl, d, _, _, _, rfl, rfl, SqL.of h2, rfl, .inl ⟨_, rfl, _, rfl, _, _, rfl, rfl, hm, ?_⟩⟩
    refine ⟨_, rfl, d, _, _, _, rfl, rfl, SqL.of h2, rfl, _, rfl, _, _, rfl, rfl, ⟨hm, hm2⟩, _, rfl, d, _, _, _, rfl, rfl, h2, rfl, _, rfl, ?_⟩
    refine k _ _ (Int.emod_nonneg _ (by omega)) (Int.emod_lt_of_pos _ hm) f2.owner ⟨cells, k2, _, s2, upd_same, ?_, ncd, hn, hk2, Int.ediv_nonneg hc2 (by omega), hs', hs2'⟩
    rw [upd_ne ncd]
    exact f2 c _ ncd hc
end
end BR
/-! BrGen1: _law_draw, _law_int, _law_octets, _law_wide -/
namespace BR
open PySem PySem.Spec PyProof.Rows L2
def Oct (ns : List Int) : Prop := ∀ n ∈ ns, 0 ≤ n ∧ n < 256
theorem Oct.append {a b : List Int} (x : Oct a) (y : Oct b) : Oct (a ++ b) := fun n h => (List.mem_append.mp h).elim (x n) (y n)
theorem Oct.take {a : List Int} (x : Oct a) (k : Nat) : Oct (a.take k) := fun n h => x n (List.mem_of_mem_take h)
theorem Oct.drop {a : List Int} (x : Oct a) (k : Nat) : Oct (a.drop k) := fun n h => x n (List.mem_of_mem_drop h)
/-- a list of ints is not the draw -/
theorem ne_draw {H : Hp} {d c r : Addr} {ns : List Int} (D : DrawAt H d c) (h : H r = some (.lst (ns.map V.int))) : r ≠ d := fun e => by
  obtain ⟨cells, kk, cur, seed, hd, _⟩ := D
  rw [e, hd] at h
  cases ns with
  | nil => cases h
  | cons a t => cases h
theorem draw_nt {H : Hp} {d c : Addr} (D : DrawAt H d c) : NT H d := by
  obtain ⟨cells, kk, cur, seed, hd, _⟩ := D
  exact nt_lst hd
theorem DrawAt.same {H H' : Hp} {d c : Addr} (D : DrawAt H d c) (s : Same H H') : DrawAt H' d c := by
  obtain ⟨cells, kk, cur, seed, hd, hc, r⟩ := D
  exact ⟨cells, kk, cur, seed, s _ _ hd, s _ _ hc, r⟩
theorem DrawAt.put {H : Hp} {d c p : Addr} {o : HO} (D : DrawAt H d c) (n : p ≠ d) (n2 : p ≠ c) : DrawAt (upd H p o) d c := by
  obtain ⟨cells, kk, cur, seed, hd, hc, r⟩ := D
  exact ⟨cells, kk, cur, seed, by rw [upd_ne (Ne.symm n)]; exact hd, by rw [upd_ne (Ne.symm n2)]; exact hc, r⟩
theorem DrawAt.at_ {H : Hp} {d c : Addr} (D : DrawAt H d c) : ∃ o, H d = some o := by
  obtain ⟨cells, kk, cur, seed, hd, _⟩ := D
  exact ⟨_, hd⟩
theorem DrawAt.atc {H : Hp} {d c : Addr} (D : DrawAt H d c) : ∃ o, H c = some o := by
  obtain ⟨cells, kk, cur, seed, hd, hc, _⟩ := D
  exact ⟨_, hc⟩
theorem DrawAt.nd {H : Hp} {d c p : Addr} (D : DrawAt H d c) (h : H p = none) : p ≠ d := by
  obtain ⟨o, e⟩ := D.at_
  exact (ne_of_none e h).symm
theorem DrawAt.nc {H : Hp} {d c p : Addr} (D : DrawAt H d c) (h : H p = none) : p ≠ c := by
  obtain ⟨o, e⟩ := D.atc
  exact (ne_of_none e h).symm
/-- what may follow the first octet of an integer: its last is no more than 127 -/
def IntRow (ns : List Int) : Prop := Oct ns ∧ 1 ≤ ns.length ∧ ns.length ≤ 4 ∧ (1 < ns.length → ∀ z, ns.getLast? = some z → z < 128)
def spInt : Sp := fun vs H Q _ => ∃ n v f : Int, vs = [.int n, .int v, .int f] ∧ 1 ≤ n ∧ n ≤ 7 ∧ 0 ≤ v ∧ v < 32768 ∧ 0 ≤ f ∧ f + 2 ^ n.toNat ≤ 256 ∧ ∀ r ns H', Same H H' → H r = none → H' r = some (.lst (ns.map V.int)) → IntRow ns → Q (.ref r) H'
def octs (z : Str) : List Int := z.cps.toList.map fun c => ((c : Nat) : Int)
def spOctets : Sp := fun vs H Q _ => ∃ z : Str, vs = [.str z] ∧ z.cps.size ≤ 1000 ∧ ∀ v H', Same H H' → TI H' v (octs z) → Q v H'
def spWide : Sp := fun vs H Q _ => ∃ (d c r : Addr) (ns : List Int), vs = [.ref d, .ref r] ∧ DrawAt H d c ∧ H r = some (.lst (ns.map V.int)) ∧ Oct ns ∧ ns.length ≤ 1000 ∧ (1 < ns.length → ∀ z, ns.getLast? = some z → z < 128) ∧
  ∀ r' ns' H', Fr d H H' → DrawAt H' d c → H' r' = some (.lst (ns'.map V.int)) → Oct ns' → ns'.length ≤ ns.length + 1 → Q (.ref r') H'
section
variable {P : Program} {w : World} {K : PySem.W.Frag} {mg : Str → Option Value} {base : Heap} {mt un hC hI hL hD aM aC aF : Addr}
theorem sc__law_draw : FnScope ["_law_script", "_law_seed", "_law_cell"] ["_law_script"] (defScope sDraw) := ⟨rfl, rfl, rfl, by decide +kernel, rfl, by decide +kernel, by decide +kernel⟩
theorem ok_draw {f : Addr} {fd : FuncData} (F : FnP K "_law_draw" "_law_draw" sDraw f fd) (T : Tx K mg mt un hC hI hL hD aM aC aF) : FnOk P w K mg base CX0 1 f fd ["_law_script"] (spDraw K) := by
  refine ok0 F sc__law_draw (fun vs H Q E h => ?_) (fun cdv A outer s H vs Q E hr h => ?_)
  · obtain ⟨a, ns, rfl, _⟩ := h
    rfl
  obtain ⟨a, ns, rfl, hS, hl, k⟩ := h
  refine ⟨_, (pss_cons (ps_set (i := 1) sc__law_draw.nd rfl (Or.inl rfl) pe_int) (pss_cons (ps_for PassesOwn.never rfl (pi_list (pv 0)) (pg_name (i := 2) sc__law_draw.nd rfl (Or.inl rfl)) (pss_one (ps_set (i := 1) sc__law_draw.nd rfl (Or.inl rfl) (pe_op op_mod (pe_callTy call_int1 (by rfl) T.int (by decide +kernel) (pa_cons (pe_op op_add (pe_op op_add (pe_op op_mul (pv 1) pe_int) (pe_op op_mod (pe_callB call_abs (by rfl) T.abs (by decide +kernel) (pa_cons (pe_callTy call_int1 (by rfl) T.int (by decide +kernel) (pa_cons (pv 2) pa_nil)) pa_nil)) pe_int)) pe_int) pa_nil)) pe_int)))) (pss_one (ps_ret (pe_lst (pa_cons (pe_lc (own := [(("_law_cell" : Str), 2)]) (g := gName 2) (tt := tYes) rfl sc__law_draw.nd (pi_list (pv 0)) (blkOk_by (own := [(("_law_cell" : Str), 2)]) (N := ["_law_script", "_law_seed", "_law_cell"]) (sc := defScope sDraw) (by decide +kernel)) (fun _ _ _ _ _ => pg_name (i := 2) sc__law_draw.nd rfl (Or.inl rfl)) (fun _ _ _ _ _ => pts_nil) (fun _ _ _ _ _ => (pe_callB call_abs (by rfl) T.abs (by decide +kernel) (pa_cons (pe_callTy call_int1 (by rfl) T.int (by decide +kernel) (pa_cons (pv 2) pa_nil)) pa_nil)))) (pa_cons (pe_un un_neg pe_int) (pa_cons pe_int (pa_cons (pv 1) pa_nil))))))))), ?_⟩
  refine ⟨_, rfl, a, rfl, ⟨_, hS⟩, for_list (K := K) (a := a) (xs := ns.map V.int) (fun i σ H' => H = H' ∧ ∃ (z : Int) (v : Option V), σ = [some (.ref a), some (.int z), v] ∧ 0 ≤ z ∧ z < 2147483647)
    ⟨rfl, 7, none, rfl, by decide, by decide⟩ (fun i σ H' _ h => by rw [← h.1]; exact hS) ?_ ?_⟩
  · rintro i y σ H' hi ⟨rfl, z, v, rfl, h0, h1⟩
    obtain ⟨n, hn, rfl⟩ := map_at hi
    refine ⟨_, rfl, _, _, rfl, rfl, .inl ⟨by omega, by omega⟩, _, rfl, .inl ⟨_, rfl, _, rfl, _, _, rfl, rfl, (by show (0 : Int) < 65521; decide), _, _, rfl, rfl, _, _, rfl, rfl, .inl ⟨_, rfl, _, _, rfl, rfl, (by show (0 : Int) < 2147483647; decide), ?_⟩⟩⟩
    exact ⟨rfl, _, _, rfl, Int.emod_nonneg _ (by decide), Int.emod_lt_of_pos _ (by decide)⟩
  · rintro σ H' ⟨rfl, z, v, rfl, h0, h1⟩
    refine ⟨_, rfl, a, rfl, ⟨_, hS⟩, fun D hD => lc_list (K := K) (a := a) (xs := ns.map V.int) (fun i H' => H' D = some (.lst (((ns.map fun n => if n < 0 then -n else n).take i).map V.int)) ∧ Same H H')
      ⟨upd_same, Same.nw hD⟩ (fun i H' _ h => h.2.seq hS) ?_ ?_⟩
    · rintro i y H' hi ⟨hD', s'⟩
      obtain ⟨n, hn, rfl⟩ := map_at hi
      have hlt := (List.getElem?_eq_some_iff.mp hn).1
      refine ⟨rfl, _, rfl, .inl ⟨_, rfl, _, rfl, _, hD', ?_, ?_, s'.putN hD⟩⟩
      · rw [List.length_map, List.length_take, List.length_map]
        exact size_lt (by omega)
      · rw [upd_same, List.take_add_one, List.getElem?_map, hn]
        simp
    · rintro H' ⟨hD', s'⟩
      refine ⟨_, rfl, _, rfl, by show 4 ≤ sizeLine; decide, fun p hp => ?_⟩
      rw [List.length_map, List.take_of_length_le (by rw [List.length_map]; exact Nat.le_refl _)] at hD'
      have nDp : D ≠ p := ne_of_none hD' hp
      refine k p D _ (s'.trans (Same.nw hp)) (s'.free hp) ⟨ns.map (fun n => if n < 0 then -n else n), -1, 0, z, upd_same, by rw [upd_ne nDp]; exact hD', nDp, ?_, by decide, by decide, h0, h1⟩
      intro x hx
      obtain ⟨n, _, rfl⟩ := List.mem_map.mp hx
      split <;> omega
theorem sc__law_int : FnScope ["_law_n", "_law_value", "_law_first", "_law_full", "_law_row"] ["_law_n", "_law_value", "_law_first"] (defScope sInt) := ⟨rfl, rfl, rfl, by decide +kernel, rfl, by decide +kernel, by decide +kernel⟩
theorem ok_int {f : Addr} {fd : FuncData} (F : FnP K "_law_int" "_law_int" sInt f fd) (T : Tx K mg mt un hC hI hL hD aM aC aF) : FnOk P w K mg base CX0 1 f fd ["_law_n", "_law_value", "_law_first"] spInt := by
  refine ok0 F sc__law_int (fun vs H Q E h => ?_) (fun cdv A outer s H vs Q E hr h => ?_)
  · obtain ⟨n, v, f, rfl, _⟩ := h
    rfl
  obtain ⟨n, v, f, rfl, n1, n7, v0, v1, f0, f1, k⟩ := h
  refine ⟨_, (pss_cons (ps_set (i := 3) sc__law_int.nd rfl (Or.inl rfl) (pe_op op_sub (pe_op op_shl pe_int (pv 0)) pe_int)) (pss_cons (ps_if (pt_cmpR op_lt (pv 1) (pv 3) (nomark _)) (pss_one (ps_ret (pe_lst (pa_cons (pe_op op_add (pv 2) (pv 1)) pa_nil)))) pss_nil) (pss_cons (ps_set (i := 4) sc__law_int.nd rfl (Or.inl rfl) (pe_lst (pa_cons (pe_op op_add (pv 2) (pv 3)) pa_nil))) (pss_cons (ps_set (i := 1) sc__law_int.nd rfl (Or.inl rfl) (pe_op op_sub (pv 1) (pv 3))) (pss_cons (ps_while PassesOwn.never (pt_cmpR op_ge (pv 1) pe_int (nomark _)) (pss_cons (ps_expr (pe_bm PySem.F.plainAttrs_list PySem.F.slot_list_append PySem.F.type_list_append mt_append (pv 4) (pa_cons (pe_op op_add (pe_op op_mod (pv 1) pe_int) pe_int) pa_nil))) (pss_one (ps_set (i := 1) sc__law_int.nd rfl (Or.inl rfl) (pe_op op_fdiv (pv 1) pe_int))))) (pss_one (ps_ret (pe_op op_cat (pv 4) (pe_lst (pa_cons (pv 1) pa_nil)))))))))), ?_⟩
  have p2 : (2 : Int) ≤ 2 ^ n.toNat ∧ (2 : Int) ^ n.toNat ≤ 128 := by
    have : n = 1 ∨ n = 2 ∨ n = 3 ∨ n = 4 ∨ n = 5 ∨ n = 6 ∨ n = 7 := by omega
    rcases this with rfl | rfl | rfl | rfl | rfl | rfl | rfl <;> decide
  refine ⟨_, rfl, _, _, rfl, rfl, ⟨by omega, by omega, by decide⟩, _, _, rfl, rfl, _, rfl, _, rfl, _, _, rfl, rfl, _, rfl, ?_⟩
  have e1 : (1 : Int) * 2 ^ n.toNat - 1 = 2 ^ n.toNat - 1 := by omega
  refine ite2 (fun lt => ?_) (fun nlt => ?_)
  · have lt' : v < 1 * 2 ^ n.toNat - 1 := of_decide_eq_true lt
    refine ⟨_, rfl, _, rfl, _, _, rfl, rfl, by show 1 ≤ sizeLine; decide, fun p hp => ?_⟩
    refine k p [f + v] _ (Same.nw hp) hp upd_same ⟨fun m hm => ?_, Nat.le_refl _, by show 1 ≤ 4; decide, fun z => absurd z (Nat.lt_irrefl _)⟩
    obtain rfl := List.mem_singleton.mp hm
    omega
  · have nlt' : ¬ v < 1 * 2 ^ n.toNat - 1 := fun z => nlt (decide_eq_true z)
    refine ⟨_, rfl, _, rfl, _, _, rfl, rfl, by show 1 ≤ sizeLine; decide, fun p hp => ?_⟩
    refine ⟨_, rfl, _, rfl, _, _, rfl, rfl, ?_⟩
    refine while_by (fun σ' H' => ∃ (u : Int) (ns : List Int), σ' = [some (.int n), some (.int u), some (.int f), some (.int (1 * 2 ^ n.toNat - 1)), some (.ref p)] ∧ H' p = some (.lst (ns.map V.int)) ∧ Same H H' ∧ Oct ns ∧ 0 ≤ u ∧
        ((ns.length = 1 ∧ u < 32768) ∨ (ns.length = 2 ∧ u < 256) ∨ (ns.length = 3 ∧ u < 2)))
      (fun σ' _ => match σ' with
        | [_, some (.int u), _, _, _] => u.toNat
        | _ => 0) ⟨v - (1 * 2 ^ n.toNat - 1), [f + (1 * 2 ^ n.toNat - 1)], rfl, upd_same, Same.nw hp, fun m hm => ?_, by omega, .inl ⟨rfl, by omega⟩⟩ ?_ ?_
    · obtain rfl := List.mem_singleton.mp hm
      omega
    · rintro σ' H' ⟨u, ns, rfl, hpn, s', ho, u0, hcase⟩
      refine ⟨_, rfl, _, _, rfl, rfl, _, rfl, ?_⟩
      refine ite2 (fun ge => ?_) (fun nge => ?_)
      · have ge' : (128 : Int) ≤ u := of_decide_eq_true ge
        refine ⟨_, rfl, .inl ⟨rfl, _, SqL.of hpn⟩, _, rfl, _, _, rfl, rfl, (by show (0 : Int) < 128; decide), _, _, rfl, rfl, p, _, _, rfl, rfl, hpn, by rw [List.length_map]; exact size_lt (by omega), ?_⟩
        refine ⟨_, rfl, _, _, rfl, rfl, ⟨by decide, by decide⟩, ?_⟩
        refine ⟨⟨u / 128, ns ++ [u % 128 + 128], rfl, by rw [upd_same, List.map_append]; rfl, s'.putN hp, ho.append fun m hm => ?_, by omega, ?_⟩, ?_⟩
        · obtain rfl := List.mem_singleton.mp hm
          omega
        · rw [List.length_append, List.length_singleton]
          omega
        · show (u / 128).toNat < u.toNat
          omega
      · have nge' : ¬ (128 : Int) ≤ u := fun z => nge (decide_eq_true z)
        refine ⟨_, rfl, _, rfl, by show 1 ≤ sizeLine; decide, fun q hq => ?_⟩
        have npq : p ≠ q := ne_of_none hpn hq
        refine ⟨p, q, _, _, rfl, rfl, by rw [upd_ne npq]; exact hpn, upd_same, by rw [List.length_map]; exact size_ok (by show _ + 1 ≤ _; omega), fun r hr => ?_⟩
        have hq0 : H q = none := s'.free hq
        have s2 : Same H (upd H' q (.lst [.int u])) := s'.nwr hq
        refine k r (ns ++ [u]) _ (s2.nwr hr) (s2.free hr) (by rw [upd_same, List.map_append]; rfl) ⟨ho.append fun m hm => ?_, ?_, ?_, fun _ z hz => ?_⟩
        · obtain rfl := List.mem_singleton.mp hm
          omega
        · rw [List.length_append, List.length_singleton]
          omega
        · rw [List.length_append, List.length_singleton]
          omega
        · rw [List.getLast?_append, List.getLast?_singleton] at hz
          cases hz
          omega
    · rintro σ' H' Q1 Q2 h12 ⟨a1, e1, a2, a3, e2, e3, b, e4, q⟩
      exact ⟨a1, e1, a2, a3, e2, e3, b, e4, h12 _ _ q⟩
theorem sc__law_octets : FnScope ["_law_text", "_law_sign"] ["_law_text"] (defScope sOctets) := ⟨rfl, rfl, rfl, by decide +kernel, rfl, by decide +kernel, by decide +kernel⟩
theorem ok_octets {f : Addr} {fd : FuncData} (F : FnP K "_law_octets" "_law_octets" sOctets f fd) (T : Tx K mg mt un hC hI hL hD aM aC aF) : FnOk P w K mg base CX0 1 f fd ["_law_text"] spOctets := by
  refine ok0 F sc__law_octets (fun vs H Q E h => ?_) (fun cdv A outer s H vs Q E hr h => ?_)
  · obtain ⟨z, rfl, _⟩ := h
    rfl
  obtain ⟨z, rfl, hz, k⟩ := h
  refine ⟨_, (pss_one (ps_ret (pe_callTy call_tuple_of (by rfl) T.tuple (by decide +kernel) (pa_cons (pe_lc (own := [(("_law_sign" : Str), 1)]) (g := gName 1) (tt := tYes) rfl sc__law_octets.nd (pi_str (pv 0)) (blkOk_by (own := [(("_law_sign" : Str), 1)]) (N := ["_law_text", "_law_sign"]) (sc := defScope sOctets) (by decide +kernel)) (fun _ _ _ _ _ => pg_name (i := 1) sc__law_octets.nd rfl (Or.inl rfl)) (fun _ _ _ _ _ => pts_nil) (fun _ _ _ _ _ => (pe_callB call_ord (by rfl) T.ord (by decide +kernel) (pa_cons (pv 1) pa_nil)))) pa_nil)))), ?_⟩
  refine ⟨_, rfl, z, rfl, fun D hD => lc_it walk_str (fun i H' => H' D = some (.lst (((octs z).take i).map V.int)) ∧ Same H H') ⟨upd_same, Same.nw hD⟩ (fun _ _ _ _ => trivial) ?_ ?_⟩
  · rintro i x H1 H2 hi ⟨hD', s'⟩ ⟨rfl, c, hc, rfl⟩
    refine ⟨rfl, _, rfl, _, rfl, rfl, _, hD', ?_, ?_, s'.putN hD⟩
    · rw [List.length_map, List.length_take]
      exact size_lt (by omega)
    · rw [upd_same, List.take_add_one]
      have e : (octs z)[i]? = some ((c : Nat) : Int) := by
        unfold octs
        rw [List.getElem?_map, Array.getElem?_toList, hc]
        rfl
      rw [e]
      simp
  · rintro H' ⟨hD', s'⟩
    rw [List.take_of_length_le (by unfold octs; rw [List.length_map, Array.length_toList]; exact Nat.le_refl _)] at hD'
    exact ⟨D, _, rfl, .inl ⟨SqL.of hD', fun l hl => k _ _ (s'.nwr hl) ⟨l, rfl, upd_same⟩⟩⟩
theorem sc__law_wide : FnScope ["_law_draw_here", "_law_row"] ["_law_draw_here", "_law_row"] (defScope sWide) := ⟨rfl, rfl, rfl, by decide +kernel, rfl, by decide +kernel, by decide +kernel⟩
theorem ok_wide {f : Addr} {fd : FuncData} (F : FnP K "_law_wide" "_law_wide" sWide f fd) (T : Tx K mg mt un hC hI hL hD aM aC aF) (G__law_take : HasF P w K mg base CX0 1 "_law_take" ["_law_draw_here", "_law_many"] spTake) : FnOk P w K mg base CX0 2 f fd ["_law_draw_here", "_law_row"] spWide := by
  refine ok0 F sc__law_wide (fun vs H Q E h => ?_) (fun cdv A outer s H vs Q E hr h => ?_)
  · obtain ⟨d, c, r, ns, rfl, _⟩ := h
    rfl
  obtain ⟨d, c, r, ns, rfl, D, hr', ho, hl, htail, k⟩ := h
  refine ⟨_, (pss_cons (ps_if (PW.pt (pw_and (pt_cmpR op_gt (pe_callB call_len_seq (by rfl) T.len (by decide +kernel) (pa_cons (pv 1) pa_nil)) pe_int (nomark _)) (pw_and1 (pt_cmpR op_eq (pe_f G__law_take (hr.mono (by decide)) pass0 (pa_cons (pv 0) (pa_cons pe_int pa_nil))) pe_int (nomark _))))) (pss_one (ps_ret (pe_op op_cat (pe_slice sl_list (pv 1) po_none (po_some (pe_un un_neg pe_int))) (pe_lst (pa_cons (pe_op op_add (pe_ix ix_list (pv 1) (pe_un un_neg pe_int) (fun _ _ => rfl)) pe_int) (pa_cons pe_int pa_nil)))))) pss_nil) (pss_one (ps_ret (pv 1)))), ?_⟩
  refine ⟨_, rfl, _, _, rfl, .inl (SqL.of hr'), _, _, rfl, rfl, _, rfl, ?_⟩
  have stay : Q (.ref r) H := k r ns H (Fr.refl _ _) D hr' ho (Nat.le_succ _)
  refine ite2 (fun gt => ?_) (fun _ => iteF ⟨_, rfl, stay⟩)
  have gt' : 1 < ns.length := by
    have := of_decide_eq_true gt
    rw [List.length_map] at this
    omega
  refine ⟨_, rfl, d, c, 3, rfl, D, by decide, by decide, fun v H1 v0 v1 f1 D1 => ?_⟩
  have r1 : H1 r = some (.lst (ns.map V.int)) := f1 r _ (ne_draw D hr') hr'
  refine ⟨rfl, _, rfl, ite2 (fun _ => ?_) (fun _ => ⟨_, rfl, k r ns H1 f1 D1 r1 ho (Nat.le_succ _)⟩)⟩
  obtain ⟨init, z, rfl⟩ : ∃ init z, ns = init ++ [z] := ⟨ns.dropLast, ns.getLast (by intro e; rw [e] at gt'; cases gt'), (List.dropLast_concat_getLast _).symm⟩
  have hz : z < 128 := htail gt' z (by rw [List.getLast?_append, List.getLast?_singleton]; rfl)
  have hz0 := ho z (List.mem_append_right _ (List.mem_singleton.mpr rfl))
  rw [List.map_append] at r1
  refine ⟨_, rfl, _, rfl, _, rfl, r, _, rfl, SqL.of r1, fun p hp => ?_⟩
  have nrp : r ≠ p := ne_of_none r1 hp
  have r2 : upd H1 p (.lst (cutV (init.map V.int ++ [V.int z]) none (some (-1)))) r = some (.lst (init.map V.int ++ [V.int z])) := by rw [upd_ne nrp]; exact r1
  refine ⟨_, rfl, _, rfl, r, _, _, _, rfl, rfl, SqL.of r2, atI_last _ _, _, _, rfl, rfl, by show 2 ≤ sizeLine; decide, fun q hq => ?_⟩
  have npq : p ≠ q := ne_of_none upd_same hq
  have ec : cutV (init.map V.int ++ [V.int z]) none (some (-1)) = init.map V.int := by
    unfold cutV HT.sIx
    simp only [List.length_append, List.length_map, List.length_singleton, List.drop_zero]
    have : (-1 + ((init.length + 1 : Nat) : Int)).toNat - 0 = init.length := by omega
    rw [show (if (-1 : Int) < 0 then (-1 + ((init.length + 1 : Nat) : Int)).toNat else min (-1 : Int).toNat (init.length + 1)) - 0 = init.length from by rw [if_pos (by decide)]; exact this]
    rw [List.take_append_of_le_length (by simp)]
    exact List.take_of_length_le (Nat.le_of_eq (by simp))
  have p2 : upd (upd H1 p (.lst (cutV (init.map V.int ++ [V.int z]) none (some (-1))))) q (.lst [.int (z + 128), .int 0]) p = some (.lst (init.map V.int)) := by rw [upd_ne npq, upd_same, ec]
  refine ⟨p, q, _, _, rfl, rfl, p2, upd_same, by rw [List.length_map]; exact size_ok (by rw [List.length_append] at hl; show _ + 2 ≤ _; omega), fun r5 hr5 => ?_⟩
  have nq : ∀ {b o}, H1 b = some o → upd (upd H1 p (.lst (cutV (init.map V.int ++ [V.int z]) none (some (-1))))) q (.lst [.int (z + 128), .int 0]) b = some o := fun e => (Same.nw hq) _ _ ((Same.nw hp) _ _ e)
  have s5 : Same H1 (upd (upd (upd H1 p (.lst (cutV (init.map V.int ++ [V.int z]) none (some (-1))))) q (.lst [.int (z + 128), .int 0])) r5 (.lst (init.map V.int ++ [.int (z + 128), .int 0]))) := fun b o e => (Same.nw hr5) _ _ (nq e)
  refine k r5 (init ++ [z + 128, 0]) _ (f1.trans (Fr.of s5)) (D1.same s5) (by rw [upd_same, List.map_append]; rfl) (Oct.append (fun m hm => ho m (List.mem_append_left _ hm)) fun m hm => ?_) (by simp)
  rcases List.mem_cons.mp hm with rfl | hm2
  · omega
  · obtain rfl := List.mem_singleton.mp hm2
    decide
end
end BR
/-! BrGen2: _law_order, _law_words, _law_coded -/
namespace BR
open PySem PySem.Spec PyProof.Rows L2
theorem All2.set {α β : Type} {R : α → β → Prop} {l : List α} {r : List β} {a : α} {b : β} (h : All2 R l r) (x : R a b) : ∀ i : Nat, All2 R (l.set i a) (r.set i b) := by
  induction h with
  | nil =>
    intro i
    exact .nil
  | cons y t ih =>
    intro i
    cases i with
    | zero => exact .cons x t
    | succ i => exact .cons y (ih i)
/-- a word: a tuple of two ints -/
def TW (H : Hp) (v : V) (p : Int × Int) : Prop := ∃ t, v = .ref t ∧ H t = some (.tup [.int p.1, .int p.2])
theorem TW.kt {H H' : Hp} {v : V} {p : Int × Int} (h : TW H v p) (k : KT H H') : TW H' v p := by
  obtain ⟨t, e, h⟩ := h
  exact ⟨t, e, k t _ h⟩
def WordsAt (H : Hp) (l : Addr) : Prop := ∃ vs, H l = some (.lst vs) ∧ All2 (TW H) vs wordsL
theorem WordsAt.ne {H : Hp} {l d c : Addr} (h : WordsAt H l) (D : DrawAt H d c) : l ≠ d := fun e => by
  obtain ⟨vs, h1, h2⟩ := h
  obtain ⟨cells, kk, cur, seed, hd, _⟩ := D
  rw [e, hd] at h1
  cases h1
  obtain ⟨p, _, t, e2, _⟩ := h2.getL (n := 1) (a := .int kk) rfl
  cases e2
theorem WordsAt.fr {H H' : Hp} {l d : Addr} (h : WordsAt H l) (f : Fr d H H') (n : l ≠ d) (k : KT H H') : WordsAt H' l := by
  obtain ⟨vs, h1, h2⟩ := h
  exact ⟨vs, f l _ n h1, h2.imp fun _ _ x => x.kt k⟩
theorem WordsAt.same {H H' : Hp} {l : Addr} (h : WordsAt H l) (s : Same H H') : WordsAt H' l := by
  obtain ⟨vs, h1, h2⟩ := h
  exact ⟨vs, s l _ h1, h2.imp fun _ _ x => x.kt s.kt⟩
def spOrder : Sp := fun vs H Q _ => vs = [] ∧ ∀ l H', Same H H' → H l = none → H' l = some (.lst (order.map V.int)) → Q (.ref l) H'
def spWords : Sp := fun vs H Q _ => vs = [] ∧ ∀ l H', Same H H' → H l = none → WordsAt H' l → Q (.ref l) H'
def spCoded : Sp := fun vs H Q _ => ∃ (v : V) (l : Addr) (ns : List Int), vs = [v, .ref l] ∧ TI H v ns ∧ Oct ns ∧ ns.length ≤ 30 ∧ WordsAt H l ∧ ∀ r ns' H', Same H H' → H r = none → H' r = some (.lst (ns'.map V.int)) → Oct ns' → ns'.length ≤ 100 → Q (.ref r) H'
section
variable {P : Program} {w : World} {K : PySem.W.Frag} {mg : Str → Option Value} {base : Heap} {mt un hC hI hL hD aM aC aF : Addr}
theorem inV_ints (i : Int) : ∀ l : List Int, inV (V.int i) (l.map V.int) = l.contains i
  | [] => rfl
  | a :: l => by
    have ih := inV_ints i l
    unfold inV at ih ⊢
    rw [List.map_cons, List.any_cons, ih, List.contains_cons]
    congr 1
    show (a == i) = (i == a)
    rw [Bool.eq_iff_iff]; rw [beq_iff_eq, beq_iff_eq]
    exact eq_comm
/-- a comprehension over a range whose element is an int that changes nothing -/
theorem lc_rangeI {lo : Int} {n k : Nat} {te : TE} {vs : List Nat} {σ : L2.St} {H1 : Hp} {D : Addr} {Qd : Hp → Prop} (f : Nat → Int) (hn : n ≤ 1000) (hD : H1 D = none) (hw : ∀ v, wipe ((wipe σ vs).set k (some v)) vs = wipe σ vs)
    (hs : ∀ (i : Nat) (H' : Hp) (Qy : V → Hp → Prop), i < n → Same H1 H' → Qy (.int (f i)) H' → te ((wipe σ vs).set k (some (.int (lo + i)))) H' Qy) (hd : ∀ H', H' D = some (.lst ((fnN f n).map V.int)) → Same H1 H' → Qd H') :
    ∃ W : Nat → Nat → Hp → Prop, (∃ m, W 0 m (upd H1 D (.lst []))) ∧ ∀ i m H, W i m H → ((Itr lo n).stop i H ∧ Qd H) ∨ ((Itr lo n).go i H ∧ ∃ Nx : Hp → Prop, (∀ H', Nx H' → ∃ m', m' < m ∧ W (i + 1) m' H') ∧ ∀ x H', (Itr lo n).yld i H x H' → gName k x (wipe σ vs) H' fun σ2 H2 => wipe σ2 vs = wipe σ vs ∧ tYes σ2 H2 fun b H3 => if b = true then te σ2 H3 fun y H4 => ∃ acc, H4 D = some (.lst acc) ∧ acc.length < sizeLine ∧ Nx (upd H4 D (.lst (acc ++ [y]))) else Nx H3) := by
  refine lc_range (fun i H' => H' D = some (.lst ((fnN f i).map V.int)) ∧ Same H1 H') ⟨upd_same, Same.nw hD⟩ (fun i H' hi ⟨e, s'⟩ => ⟨hw _, ?_⟩) fun H' ⟨e, s'⟩ => hd H' e s'
  refine hs i H' _ hi s' ⟨_, e, ?_, ?_, s'.putN hD⟩
  · unfold fnN
    rw [List.length_map, List.length_map, List.length_range]
    exact size_lt (by omega)
  · rw [upd_same, fnN_more, List.map_append]
    rfl
theorem sc__law_order : FnScope ["_law_marks", "_law_order_here", "_law_sign", "_law_k", "_law_octet"] [] (defScope sOrder) := ⟨rfl, rfl, rfl, by decide +kernel, rfl, by decide +kernel, by decide +kernel⟩
/-- a comprehension over a range whose element is an int: the turn's bookkeeping -/
theorem ok_order {f : Addr} {fd : FuncData} (F : FnP K "_law_order" "_law_order" sOrder f fd) (T : Tx K mg mt un hC hI hL hD aM aC aF) : FnOk P w K mg base CX0 1 f fd [] spOrder := by
  refine ok0 F sc__law_order (fun vs H Q E h => ?_) (fun cdv A outer s H vs Q E hr h => ?_)
  · rw [h.1]
    rfl
  obtain ⟨rfl, k⟩ := h
  refine ⟨_, (pss_cons (ps_setLc (i := 0) (own := [(("_law_sign" : Str), 2)]) (g := gName 2) (tt := tYes) rfl sc__law_order.nd rfl rfl (sw_true rfl rfl rfl (by decide +kernel)) (pi_str pe_str) (blkOk_by (own := [(("_law_sign" : Str), 2)]) (N := ["_law_marks", "_law_order_here", "_law_sign", "_law_k", "_law_octet"]) (sc := defScope sOrder) (by decide +kernel)) (fun _ _ _ _ _ => pg_name (i := 2) sc__law_order.nd rfl (Or.inl rfl)) (fun _ _ _ _ _ => pts_nil) (fun _ _ _ _ _ => (pe_callB call_ord (by rfl) T.ord (by decide +kernel) (pa_cons (pv 2) pa_nil)))) (pss_cons (ps_set (i := 1) sc__law_order.nd rfl (Or.inr rfl) (pe_op op_cat (pe_op op_cat (pe_op op_cat (pe_lc (own := [(("_law_k" : Str), 3)]) (g := gName 3) (tt := tYes) rfl sc__law_order.nd (pi_range1 rfl T.range (pa_cons pe_int pa_nil)) (blkOk_by (own := [(("_law_k" : Str), 3)]) (N := ["_law_marks", "_law_order_here", "_law_sign", "_law_k", "_law_octet"]) (sc := defScope sOrder) (by decide +kernel)) (fun _ _ _ _ _ => pg_name (i := 3) sc__law_order.nd rfl (Or.inl rfl)) (fun _ _ _ _ _ => pts_nil) (fun _ _ _ _ _ => (pe_op op_add pe_int (pv 3)))) (pe_lc (own := [(("_law_k" : Str), 3)]) (g := gName 3) (tt := tYes) rfl sc__law_order.nd (pi_range1 rfl T.range (pa_cons pe_int pa_nil)) (blkOk_by (own := [(("_law_k" : Str), 3)]) (N := ["_law_marks", "_law_order_here", "_law_sign", "_law_k", "_law_octet"]) (sc := defScope sOrder) (by decide +kernel)) (fun _ _ _ _ _ => pg_name (i := 3) sc__law_order.nd rfl (Or.inl rfl)) (fun _ _ _ _ _ => pts_nil) (fun _ _ _ _ _ => (pe_op op_add pe_int (pv 3))))) (pv 0)) (pe_lc (own := [(("_law_k" : Str), 3)]) (g := gName 3) (tt := tYes) rfl sc__law_order.nd (pi_range1 rfl T.range (pa_cons pe_int pa_nil)) (blkOk_by (own := [(("_law_k" : Str), 3)]) (N := ["_law_marks", "_law_order_here", "_law_sign", "_law_k", "_law_octet"]) (sc := defScope sOrder) (by decide +kernel)) (fun _ _ _ _ _ => pg_name (i := 3) sc__law_order.nd rfl (Or.inl rfl)) (fun _ _ _ _ _ => pts_nil) (fun _ _ _ _ _ => (pe_op op_add pe_int (pv 3)))))) (pss_one (ps_ret (pe_op op_cat (pv 1) (pe_lc (own := [(("_law_octet" : Str), 4)]) (g := gName 4) (tt := _) rfl sc__law_order.nd (pi_range1 rfl T.range (pa_cons pe_int pa_nil)) (blkOk_by (own := [(("_law_octet" : Str), 4)]) (N := ["_law_marks", "_law_order_here", "_law_sign", "_law_k", "_law_octet"]) (sc := defScope sOrder) (by decide +kernel)) (fun _ _ _ _ _ => pg_name (i := 4) sc__law_order.nd rfl (Or.inl rfl)) (fun _ _ _ _ _ => (pts_one (pt_cmpR (op_notIn_seqK K rfl) (pv 4) (pv 1) (by rfl)))) (fun _ _ _ _ _ => (pv 4)))))))), ?_⟩
  refine ⟨_, rfl, fun D hD => lc_it walk_str (fun i H' => H' D = some (.lst ((marks.take i).map V.int)) ∧ Same H H') ⟨upd_same, Same.nw hD⟩ (fun _ _ _ _ => trivial) ?_ ?_⟩
  · rintro i x H1 H2 hi ⟨hD', s'⟩ ⟨rfl, c, hc, rfl⟩
    refine ⟨rfl, _, rfl, _, rfl, rfl, _, hD', ?_, ?_, s'.putN hD⟩
    · rw [List.length_map, List.length_take]
      exact size_lt (Nat.le_trans (Nat.min_le_right _ _) (by decide))
    · rw [upd_same, List.take_add_one]
      have e : marks[i]? = some ((c : Nat) : Int) := by
        have e1 : marks = octs "-./:=_ ,;" := by decide +kernel
        rw [e1]
        unfold octs
        rw [List.getElem?_map, Array.getElem?_toList, hc]
        rfl
      rw [e]
      simp
  rintro H1 ⟨hm, s1⟩
  rw [show marks.take (("-./:=_ ,;" : Str).cps.size) = marks from by decide +kernel] at hm
  -- the letters, the digits, the capitals
  refine ⟨_, rfl, by decide, by decide, fun L hL => lc_rangeI (lo := 0) (n := 26) (k := 3) (fun i => 97 + (0 + (i : Int))) (by decide) hL (fun _ => rfl) (fun i H' Qy hi s' q => ⟨_, rfl, _, _, rfl, rfl, q⟩) fun H2 h2 s2 => ?_⟩
  refine ⟨_, rfl, by decide, by decide, fun M hM => lc_rangeI (lo := 0) (n := 10) (k := 3) (fun i => 48 + (0 + (i : Int))) (by decide) hM (fun _ => rfl) (fun i H' Qy hi s' q => ⟨_, rfl, _, _, rfl, rfl, q⟩) fun H3 h3 s3 => ?_⟩
  refine ⟨L, M, _, _, rfl, rfl, s3 _ _ h2, h3, by decide, fun p hp => ?_⟩
  have m3 := (Same.nw (o := .lst ((fnN (fun i => 97 + (0 + (i : Int))) 26).map V.int ++ (fnN (fun i => 48 + (0 + (i : Int))) 10).map V.int)) hp) _ _ (s3 _ _ (s2 _ _ hm))
  have s13 : Same H (upd H3 p (.lst ((fnN (fun i => 97 + (0 + (i : Int))) 26).map V.int ++ (fnN (fun i => 48 + (0 + (i : Int))) 10).map V.int))) := ((s1.trans s2).trans s3).nwr hp
  refine ⟨_, rfl, p, D, _, _, rfl, rfl, upd_same, m3, by decide, fun q hq => ?_⟩
  refine ⟨_, rfl, by decide, by decide, fun N hN => lc_rangeI (lo := 0) (n := 26) (k := 3) (fun i => 65 + (0 + (i : Int))) (by decide) hN (fun _ => rfl) (fun i H' Qy hi s' q => ⟨_, rfl, _, _, rfl, rfl, q⟩) fun H4 h4 s4 => ?_⟩
  refine ⟨q, N, _, _, rfl, rfl, s4 _ _ upd_same, h4, by decide, fun r hr5 => ?_⟩
  have en : (fnN (fun i => 97 + (0 + (i : Int))) 26).map V.int ++ (fnN (fun i => 48 + (0 + (i : Int))) 10).map V.int ++ marks.map V.int ++ (fnN (fun i => 65 + (0 + (i : Int))) 26).map V.int = named.map V.int := by decide +kernel
  rw [en]
  have s5 : Same H (upd H4 r (.lst (named.map V.int))) := ((s13.nwr hq).trans s4).nwr hr5
  -- the others
  refine ⟨_, rfl, _, rfl, by decide, by decide, fun O hO => lc_range (lo := 0) (n := 257) (fun i H' => H' O = some (.lst (((upto i).filter fun o => !named.contains o).map V.int)) ∧ Same (upd H4 r (.lst (named.map V.int))) H') ⟨upd_same, Same.nw hO⟩ ?_ ?_⟩
  · rintro i H5 hi ⟨h5, s6⟩
    have ei : inV (V.int (0 + (i : Int))) (named.map V.int) = named.contains (i : Int) := by
      rw [Int.zero_add]
      exact inV_ints _ _
    refine ⟨rfl, _, rfl, _, rfl, r, _, rfl, .inl (SqL.of (s6 _ _ upd_same)), rfl, ?_, _, rfl, ?_⟩
    · rw [List.all_eq_true]
      intro x hx
      obtain ⟨y, _, rfl⟩ := List.mem_map.mp hx
      rfl
    rw [if_pos rfl, ei]
    have lf : (((upto i).filter fun o => !named.contains o).map V.int).length < sizeLine := by
      rw [List.length_map]
      exact size_lt (Nat.le_trans (List.length_filter_le _ _) (by rw [upto_len]; omega))
    cases c : named.contains (i : Int) with
    | true =>
      refine iteF ⟨?_, s6⟩
      rw [filt_no (by rw [c]; rfl)]
      exact h5
    | false =>
      refine iteT ⟨_, rfl, _, h5, lf, ?_, s6.putN hO⟩
      rw [upd_same, filt_yes (p := fun o => !named.contains o) (by rw [c]; rfl), List.map_append, Int.zero_add]
      rfl
  · rintro H5 ⟨h5, s6⟩
    refine ⟨r, O, _, _, rfl, rfl, s6 _ _ upd_same, h5, by decide +kernel, fun l hl => ?_⟩
    refine k l _ ((s5.trans s6).nwr hl) ((s5.trans s6).free hl) ?_
    rw [upd_same, ← List.map_append]
    rfl
theorem rd_rep {c n : Int} {σ : L2.St} {H : Hp} {Q : VK} (h0 : 0 ≤ n) (h1 : n ≤ 1000) (h : ∀ p H', Same H H' → H' p = some (.lst (List.replicate n.toNat (V.int c))) → Q (.ref p) H') : tOp rRep (tLst (tCons (tC (V.int c)) tNil)) (tC (V.int n)) σ H Q := by
  refine ⟨by show 1 ≤ sizeLine; decide, fun a ha => ⟨a, n, _, rfl, rfl, upd_same, by omega, by omega, by rw [List.length_singleton]; exact size_ok (by omega), fun b hb => ?_⟩⟩
  refine h b _ ((Same.nw ha).nwr hb) ?_
  rw [upd_same]
  congr 2
  generalize n.toNat = k
  induction k with
  | zero => rfl
  | succ k ih =>
    rw [List.replicate_succ, List.flatten_cons, ih]
    rfl
theorem sc__law_words : FnScope ["_law_order_here", "_law_lengths", "_law_words_here", "_law_number", "_law_last", "_law_rank", "_law_k"] [] (defScope sWords) := ⟨rfl, rfl, rfl, by decide +kernel, rfl, by decide +kernel, by decide +kernel⟩
theorem ok_words {f : Addr} {fd : FuncData} (F : FnP K "_law_words" "_law_words" sWords f fd) (T : Tx K mg mt un hC hI hL hD aM aC aF) (G__law_order : HasF P w K mg base CX0 1 "_law_order" [] spOrder) : FnOk P w K mg base CX0 2 f fd [] spWords := by
  refine ok0 F sc__law_words (fun vs H Q E h => ?_) (fun cdv A outer s H vs Q E hr h => ?_)
  · rw [h.1]
    rfl
  obtain ⟨rfl, k⟩ := h
  refine ⟨_, (pss_cons (ps_set (i := 0) sc__law_words.nd rfl (Or.inl rfl) (pe_f0 G__law_order (hr.mono (by decide)) pass0)) (pss_cons (ps_set (i := 1) sc__law_words.nd rfl (Or.inl rfl) (pe_op op_cat (pe_op op_cat (pe_op op_cat (pe_op op_cat (pe_op op_rep (pe_lst (pa_cons pe_int pa_nil)) pe_int) (pe_op op_rep (pe_lst (pa_cons pe_int pa_nil)) pe_int)) (pe_op op_rep (pe_lst (pa_cons pe_int pa_nil)) pe_int)) (pe_op op_rep (pe_lst (pa_cons pe_int pa_nil)) pe_int)) (pe_op op_rep (pe_lst (pa_cons pe_int pa_nil)) pe_int))) (pss_cons (ps_setLc (i := 2) (own := [(("_law_k" : Str), 6)]) (g := gName 6) (tt := tYes) rfl sc__law_words.nd rfl rfl (sw_true rfl rfl rfl (by decide +kernel)) (pi_range1 rfl T.range (pa_cons pe_int pa_nil)) (blkOk_by (own := [(("_law_k" : Str), 6)]) (N := ["_law_order_here", "_law_lengths", "_law_words_here", "_law_number", "_law_last", "_law_rank", "_law_k"]) (sc := defScope sWords) (by decide +kernel)) (fun _ _ _ _ _ => pg_name (i := 6) sc__law_words.nd rfl (Or.inl rfl)) (fun _ _ _ _ _ => pts_nil) (fun _ _ _ _ _ => (pe_tup (pa_cons pe_int (pa_cons pe_int pa_nil))))) (pss_cons (ps_set (i := 3) sc__law_words.nd rfl (Or.inl rfl) pe_int) (pss_cons (ps_set (i := 4) sc__law_words.nd rfl (Or.inl rfl) pe_int) (pss_cons (ps_for PassesOwn.never rfl (pi_range1 rfl T.range (pa_cons pe_int pa_nil)) (pg_name (i := 5) sc__law_words.nd rfl (Or.inl rfl)) (pss_cons (ps_set (i := 3) sc__law_words.nd rfl (Or.inl rfl) (pe_op op_shl (pv 3) (pe_op op_sub (pe_ix ix_list (pv 1) (pv 5) (fun _ _ => rfl)) (pv 4)))) (pss_cons (ps_set (i := 4) sc__law_words.nd rfl (Or.inl rfl) (pe_ix ix_list (pv 1) (pv 5) (fun _ _ => rfl))) (pss_cons (ps_asg (pe_tup (pa_cons (pv 3) (pa_cons (pv 4) pa_nil))) (pg_sub (pv 2) (pe_ix ix_list (pv 0) (pv 5) (fun _ _ => rfl)) set_list)) (pss_one (ps_set (i := 3) sc__law_words.nd rfl (Or.inl rfl) (pe_op op_add (pv 3) pe_int))))))) (pss_one (ps_ret (pv 2))))))))), ?_⟩
  refine ⟨rfl, fun o H1 s1 o0 h1 => ?_⟩
  refine rd_rep (by decide) (by decide) fun a1 H2 s2 h2 => rd_rep (by decide) (by decide) fun a2 H3 s3 h3 => rd_cat (s3 _ _ h2) h3 (by decide) fun a3 H4 s4 _ h4 => ?_
  refine rd_rep (by decide) (by decide) fun a4 H5 s5 h5 => rd_cat (s5 _ _ h4) h5 (by decide) fun a6 H6 s6 _ h6 => ?_
  refine rd_rep (by decide) (by decide) fun a7 H7 s7 h7 => rd_cat (s7 _ _ h6) h7 (by decide) fun a8 H8 s8 _ h8 => ?_
  refine rd_rep (by decide) (by decide) fun a9 H9 s9 h9 => rd_cat (s9 _ _ h8) h9 (by decide) fun ll Ha sa _ ha => ?_
  have sA : Same H1 Ha := ((((((((s2.trans s3).trans s4).trans s5).trans s6).trans s7).trans s8).trans s9).trans sa)
  have lensA : Ha ll = some (.lst (lens.map V.int)) := by
    rw [ha]
    exact congrArg (fun z => some (HO.lst z)) (by decide +kernel)
  have ordA := sA _ _ h1
  -- the words, all (0, 0)
  refine ⟨_, rfl, by decide, by decide, fun L hL => lc_range (lo := 0) (n := 257) (fun i H' => ∃ vs, H' L = some (.lst vs) ∧ All2 (TW H') vs (List.replicate i (0, 0)) ∧ Same Ha H') ⟨[], upd_same, .nil, Same.nw hL⟩ ?_ ?_⟩
  · rintro i H' hi ⟨vs, hv, ha2, s'⟩
    refine ⟨rfl, by decide, fun t ht => ⟨vs, ?_, ?_, ?_⟩⟩
    · rw [upd_ne (ne_of_none hv ht)]
      exact hv
    · rw [ha2.length, List.length_replicate]
      exact size_lt (by omega)
    · have nLt : L ≠ t := ne_of_none hv ht
      refine ⟨_, upd_same, ?_, (s'.nwr ht).putN hL⟩
      rw [List.replicate_succ']
      have kt : KT (upd H' t (.tup [.int 0, .int 0])) (upd (upd H' t (.tup [.int 0, .int 0])) L (.lst (vs ++ [V.ref t]))) := (Fr.own).kt (nt_lst (xs := vs) (by rw [upd_ne nLt]; exact hv))
      exact ((ha2.imp fun _ _ x => (x.kt (Same.nw ht).kt).kt kt)).append (.cons ⟨t, rfl, by rw [upd_ne (Ne.symm nLt)]; exact upd_same⟩ .nil)
  rintro Hb ⟨vs0, hv0, av0, sb⟩
  have fb : ∀ {b o}, Ha b = some o → b ≠ L := fun e => ne_of_none e hL
  refine ⟨_, rfl, by decide, by decide, for_range (lo := 0) (n := 257) (fun i σ' H' => ∃ (vs : List V) (v : Option V), σ' = [some (.ref o), some (.ref ll), some (.ref L), some (.int (wordRun i).num), some (.int (wordRun i).last), v, none] ∧
      H' L = some (.lst vs) ∧ All2 (TW H') vs (wordRun i).ws ∧ Same Ha H') ⟨vs0, none, rfl, hv0, av0, sb⟩ ?_ ?_⟩
  · rintro i σ' H' hi ⟨vs, v, rfl, hv, av, s'⟩
    obtain ⟨j0, j1, jn, el, eo, o0', o1⟩ := word_steps i hi
    have ei : (0 + (i : Int)) = (i : Int) := Int.zero_add _
    rw [ei]
    refine ⟨_, rfl, _, rfl, _, rfl, ll, _, _, _, rfl, rfl, SqL.of (s' _ _ lensA), atI_nat (at_map el), _, rfl, _, _, rfl, rfl, _, _, rfl, rfl, ⟨j0, by omega, jn⟩, ?_⟩
    refine ⟨_, rfl, _, rfl, ll, _, _, _, rfl, rfl, SqL.of (s' _ _ lensA), atI_nat (at_map el), ?_⟩
    refine ⟨_, rfl, _, rfl, by show 2 ≤ sizeLine; decide, fun t ht => ?_⟩
    have nLt : L ≠ t := ne_of_none hv ht
    have ho := s' _ _ ordA
    refine ⟨_, rfl, _, rfl, _, rfl, o, _, _, _, rfl, rfl, SqL.of ((Same.nw ht) _ _ ho), atI_nat (at_map eo), ?_⟩
    refine ⟨L, vs, _, (order.getD i 0).toNat, rfl, rfl, by rw [upd_ne nLt]; exact hv, ?_, ?_⟩
    · unfold ixN
      have hl : vs.length = 257 := av.length.trans (wordRun_len i)
      rw [if_pos o0', if_pos (by omega)]
    refine ⟨_, rfl, _, _, rfl, rfl, ?_⟩
    have kt : KT (upd H' t (.tup [.int ((wordRun i).num * 2 ^ (lens.getD i 0 - (wordRun i).last).toNat), .int (lens.getD i 0)])) (upd (upd H' t (.tup [.int ((wordRun i).num * 2 ^ (lens.getD i 0 - (wordRun i).last).toNat), .int (lens.getD i 0)])) L (.lst (vs.set (order.getD i 0).toNat (V.ref t)))) := (Fr.own).kt (nt_lst (xs := vs) (by rw [upd_ne nLt]; exact hv))
    refine ⟨_, _, rfl, upd_same, ?_, (s'.nwr ht).putN hL⟩
    exact ((av.imp fun _ _ x => (x.kt (Same.nw ht).kt).kt kt)).set ⟨t, rfl, by rw [upd_ne (Ne.symm nLt)]; exact upd_same⟩ _
  · rintro σ' H' ⟨vs, v, rfl, hv, av, s'⟩
    refine ⟨_, rfl, k L H' ((s1.trans sA).trans s') ((s1.trans sA).free hL) ⟨vs, hv, av⟩⟩
theorem sc__law_coded : FnScope ["_law_octets_here", "_law_words_here", "_law_kept", "_law_count", "_law_octet", "_law_rest", "_law_k"] ["_law_octets_here", "_law_words_here"] (defScope sCoded) := ⟨rfl, rfl, rfl, by decide +kernel, rfl, by decide +kernel, by decide +kernel⟩
theorem ok_coded {f : Addr} {fd : FuncData} (F : FnP K "_law_coded" "_law_coded" sCoded f fd) (T : Tx K mg mt un hC hI hL hD aM aC aF) : FnOk P w K mg base CX0 1 f fd ["_law_octets_here", "_law_words_here"] spCoded := by
  refine ok0 F sc__law_coded (fun vs H Q E h => ?_) (fun cdv A outer s H vs Q E hr h => ?_)
  · obtain ⟨v, l, ns, rfl, _⟩ := h
    rfl
  obtain ⟨v, l, ns, rfl, ⟨t, rfl, ht⟩, ho, hl, ⟨ws, hw, hw2⟩, k⟩ := h
  refine ⟨_, (pss_cons (ps_set (i := 2) sc__law_coded.nd rfl (Or.inr rfl) pe_int) (pss_cons (ps_set (i := 3) sc__law_coded.nd rfl (Or.inr rfl) pe_int) (pss_cons (ps_for PassesOwn.never rfl (pi_tup (pv 0)) (pg_name (i := 4) sc__law_coded.nd rfl (Or.inl rfl)) (pss_cons (ps_set (i := 2) sc__law_coded.nd rfl (Or.inr rfl) (pe_op op_add (pe_op op_shlN (pv 2) (pe_ix ix_tup (pe_ix ix_list (pv 1) (pv 4) (fun _ _ => rfl)) pe_int (fun _ _ => rfl))) (pe_ix ix_tup (pe_ix ix_list (pv 1) (pv 4) (fun _ _ => rfl)) pe_int (fun _ _ => rfl)))) (pss_one (ps_set (i := 3) sc__law_coded.nd rfl (Or.inr rfl) (pe_op op_add (pv 3) (pe_ix ix_tup (pe_ix ix_list (pv 1) (pv 4) (fun _ _ => rfl)) pe_int (fun _ _ => rfl))))))) (pss_cons (ps_set (i := 5) sc__law_coded.nd rfl (Or.inl rfl) (pe_op op_andM (pe_un un_neg (pv 3)) pe_int)) (pss_cons (ps_set (i := 2) sc__law_coded.nd rfl (Or.inr rfl) (pe_op op_sub (pe_op op_add (pe_op op_shlN (pv 2) (pv 5)) (pe_op op_shlN pe_int (pv 5))) pe_int)) (pss_cons (ps_set (i := 3) sc__law_coded.nd rfl (Or.inr rfl) (pe_op op_add (pv 3) (pv 5))) (pss_one (ps_ret (pe_lc (own := [(("_law_k" : Str), 6)]) (g := gName 6) (tt := tYes) rfl sc__law_coded.nd (pi_range1 rfl T.range (pa_cons (pe_op op_fdiv (pv 3) pe_int) pa_nil)) (blkOk_by (own := [(("_law_k" : Str), 6)]) (N := ["_law_octets_here", "_law_words_here", "_law_kept", "_law_count", "_law_octet", "_law_rest", "_law_k"]) (sc := defScope sCoded) (by decide +kernel)) (fun _ _ _ _ _ => pg_name (i := 6) sc__law_coded.nd rfl (Or.inl rfl)) (fun _ _ _ _ _ => pts_nil) (fun _ _ _ _ _ => (pe_op op_andM (pe_op op_shr (pv 2) (pe_op op_sub (pe_op op_sub (pv 3) pe_int) (pe_op op_mul pe_int (pv 6)))) pe_int))))))))))), ?_⟩
  refine ⟨_, rfl, t, rfl, ⟨_, SqT.of ht⟩, for_tup (K := K) (a := t) (xs := ns.map V.int) (fun i σ' H' => H = H' ∧ ∃ (x : Int) (c : Nat) (v : Option V), σ' = [some (.ref t), some (.ref l), some (.int x), some (.int (c : Int)), v, none, none] ∧ 0 ≤ x ∧ x < 2 ^ c ∧ c ≤ 16 * i)
    ⟨rfl, 0, 0, none, rfl, by decide, by decide, Nat.le_refl _⟩ (fun i σ' H' _ h => by rw [← h.1]; exact SqT.of ht) ?_ ?_⟩
  · rintro i y σ' H' hi ⟨rfl, x, c, v, rfl, x0, x1, hc⟩
    obtain ⟨o, hon, rfl⟩ := map_at hi
    have oo := ho o (List.mem_of_getElem? hon)
    have hin : i < ns.length := (List.getElem?_eq_some_iff.mp hon).1
    have eo : ((o.toNat : Nat) : Int) = o := by omega
    have lt : o.toNat < 257 := by omega
    obtain ⟨hlk, hp, hn0⟩ := words_look o.toNat lt
    obtain ⟨h16, hsm⟩ := words_small o.toNat lt
    have ew : wordsL[o.toNat]? = some (wordsL.getD o.toNat (0, 0)) := by
      rw [List.getD_eq_getElem?_getD, List.getElem?_eq_getElem (by rw [words_len]; exact lt)]
      rfl
    generalize wordsL.getD o.toNat (0, 0) = p at *
    obtain ⟨n, m⟩ := p
    obtain ⟨a, ea, b, rfl, hb⟩ := hw2.get ew
    have m16 : m ≤ 16 := h16
    have em : ((m.toNat : Nat) : Int) = m := by
      show ((m.toNat : Nat) : Int) = m
      have : 0 < m := hp
      omega
    have at_ : atI ws o = some (V.ref b) := by
      rw [← eo]
      exact atI_nat ea
    refine ⟨_, rfl, _, rfl, _, rfl, l, ws, _, _, rfl, rfl, SqL.of hw, at_, b, _, _, _, rfl, rfl, SqT.of hb, rfl, x, m.toNat, rfl, by rw [em], shl_ok (n := c) (nat_lt_pow (by rw [Int.natAbs_of_nonneg x0]; exact x1)) (by omega), ?_⟩
    refine ⟨_, rfl, _, rfl, l, ws, _, _, rfl, rfl, SqL.of hw, at_, b, _, _, _, rfl, rfl, SqT.of hb, rfl, _, _, rfl, rfl, ?_⟩
    refine ⟨_, rfl, _, rfl, _, rfl, l, ws, _, _, rfl, rfl, SqL.of hw, at_, b, _, _, _, rfl, rfl, SqT.of hb, rfl, _, _, rfl, rfl, ?_⟩
    have hsm' : n < 2 ^ m.toNat := hsm
    have n0 : 0 ≤ n := hn0
    refine ⟨rfl, x * 2 ^ m.toNat + n, c + m.toNat, some (.int o), ?_, ?_, ?_, by omega⟩
    · rw [Int.natCast_add, em]
      rfl
    · have : 0 ≤ x * 2 ^ m.toNat := Int.mul_nonneg x0 (Int.pow_nonneg (by decide))
      omega
    · rw [Int.pow_add]
      have h1 : (x + 1) * 2 ^ m.toNat ≤ 2 ^ c * 2 ^ m.toNat := Int.mul_le_mul_of_nonneg_right (by omega) (Int.pow_nonneg (by decide))
      rw [Int.add_mul, Int.one_mul] at h1
      omega
  · rintro σ' H' ⟨rfl, x, c, v, rfl, x0, x1, hc⟩
    rw [List.length_map] at hc
    have z := Int.emod_nonneg (-(c : Int)) (show (8 : Int) ≠ 0 by decide)
    have z2 := Int.emod_lt_of_pos (-(c : Int)) (show (0 : Int) < 8 by decide)
    refine ⟨_, rfl, _, rfl, _, 3, rfl, rfl, ?_⟩
    have er : -(c : Int) % 2 ^ 3 = (((-(c : Int) % 8).toNat : Nat) : Int) := by
      show -(c : Int) % 8 = _
      omega
    rw [er]
    generalize (-(c : Int) % 8).toNat = r at *
    have r7 : r ≤ 7 := by omega
    refine ⟨_, rfl, _, rfl, x, r, rfl, rfl, shl_ok (n := c) (nat_lt_pow (by rw [Int.natAbs_of_nonneg x0]; exact x1)) (by omega), _, rfl, 1, r, rfl, rfl, shl_ok (n := 1) (by decide) (by omega), _, _, rfl, rfl, _, _, rfl, rfl, ?_⟩
    refine ⟨_, rfl, _, rfl, _, _, rfl, rfl, ?_⟩
    refine ⟨_, rfl, _, _, rfl, rfl, ⟨by decide, by decide⟩, _, rfl, by omega, by omega, fun D hDn => ?_⟩
    refine lc_rangeI (lo := 0) (n := (((c : Int) + (r : Int)) / 8).toNat) (k := 6) (fun i => (x * 2 ^ r + 1 * 2 ^ r - 1) / 2 ^ (((c : Int) + (r : Int)) - 8 - 8 * (0 + (i : Int))).toNat % 2 ^ 8) (by omega) hDn (fun _ => rfl) (fun i H' Qy hi s' q => ?_) fun H2 h2 s2 => ?_
    · refine ⟨_, rfl, _, rfl, _, _, rfl, rfl, _, rfl, _, _, rfl, rfl, .inl ⟨by decide, by decide⟩, _, _, rfl, rfl, _, _, rfl, rfl, ?_, _, 8, rfl, rfl, q⟩
      omega
    · refine k D _ H2 s2 hDn h2 (fun m hm => ?_) ?_
      · unfold fnN at hm
        obtain ⟨i, _, rfl⟩ := List.mem_map.mp hm
        refine ⟨Int.emod_nonneg _ ?_, Int.emod_lt_of_pos _ ?_⟩ <;> decide
      · unfold fnN
        rw [List.length_map]; rw [List.length_range]
        omega
end
end BR
/-! BrGen3: _law_pair, _law_string, _law_part, _law_block -/
namespace BR
open PySem PySem.Spec PyProof.Rows L2
/-- a text of a menu at a drawn place -/
theorem str_at {zs : List Str} {v : Int} (hz : zs.all (fun z => decide (z.cps.size ≤ 20) && z.cps.toList.all fun c => decide (c < 256)) = true) (h0 : 0 ≤ v) (h1 : v < (zs.length : Int)) :
    ∃ z, atI (zs.map V.str) v = some (.str z) ∧ z.cps.size ≤ 20 ∧ Oct (octs z) ∧ (octs z).length ≤ 20 := by
  have hl : v.toNat < zs.length := by omega
  have e : (zs.map V.str)[v.toNat]? = some (.str zs[v.toNat]) := by
    rw [List.getElem?_map, List.getElem?_eq_getElem hl]
    rfl
  have q := List.all_eq_true.mp hz _ (List.getElem_mem hl)
  have ⟨q1, q2⟩ := Bool.and_eq_true_iff.mp q
  refine ⟨zs[v.toNat], atI_int e h0, of_decide_eq_true q1, fun m hm => ?_, ?_⟩
  · obtain ⟨c, hc, rfl⟩ := List.mem_map.mp hm
    have := of_decide_eq_true (List.all_eq_true.mp q2 c hc)
    omega
  · unfold octs
    rw [List.length_map]; rw [Array.length_toList]
    exact of_decide_eq_true q1
theorem int_at {ns : List Int} {v : Int} (h0 : 0 ≤ v) (h1 : v < (ns.length : Int)) : ∃ n, atI (ns.map V.int) v = some (.int n) ∧ n ∈ ns := by
  have hl : v.toNat < ns.length := by omega
  exact ⟨ns[v.toNat], atI_int (at_map (List.getElem?_eq_getElem hl)) h0, List.getElem_mem hl⟩
/-- a comprehension over a range whose element draws -/
theorem lc_draws {n k : Nat} {te : TE} {vs : List Nat} {σ : L2.St} {H1 : Hp} {D d c : Addr} {Qd : Hp → Prop} (hn : n ≤ 1000) (hD : H1 D = none) (DA : DrawAt H1 d c) (hw : ∀ v, wipe ((wipe σ vs).set k (some v)) vs = wipe σ vs)
    (hs : ∀ (i : Nat) (H' : Hp) (Qy : V → Hp → Prop), DrawAt H' d c → (∀ x H4, 0 ≤ x → x < 256 → Fr d H' H4 → DrawAt H4 d c → Qy (.int x) H4) → te ((wipe σ vs).set k (some (.int (0 + (i : Int))))) H' Qy)
    (hd : ∀ H' ns, H' D = some (.lst (ns.map V.int)) → ns.length = n → Oct ns → Fr d H1 H' → DrawAt H' d c → Qd H') :
    ∃ W : Nat → Nat → Hp → Prop, (∃ m, W 0 m (upd H1 D (.lst []))) ∧ ∀ i m H, W i m H → ((Itr 0 n).stop i H ∧ Qd H) ∨ ((Itr 0 n).go i H ∧ ∃ Nx : Hp → Prop, (∀ H', Nx H' → ∃ m', m' < m ∧ W (i + 1) m' H') ∧ ∀ x H', (Itr 0 n).yld i H x H' → gName k x (wipe σ vs) H' fun σ2 H2 => wipe σ2 vs = wipe σ vs ∧ tYes σ2 H2 fun b H3 => if b = true then te σ2 H3 fun y H4 => ∃ acc, H4 D = some (.lst acc) ∧ acc.length < sizeLine ∧ Nx (upd H4 D (.lst (acc ++ [y]))) else Nx H3) := by
  refine lc_range (fun i H' => ∃ ns, H' D = some (.lst (ns.map V.int)) ∧ ns.length = i ∧ Oct ns ∧ Fr d H1 H' ∧ DrawAt H' d c) ⟨[], upd_same, rfl, (fun _ h => by cases h), Fr.new hD, DA.put (DA.nd hD) (DA.nc hD)⟩ ?_ fun H' ⟨ns, e, l, o, f, q⟩ => hd H' ns e l o f q
  rintro i H' hi ⟨ns, e, l, o, f, q⟩
  refine ⟨hw _, hs i H' _ q fun x H4 x0 x1 f4 q4 => ?_⟩
  have nDd : D ≠ d := DA.nd hD
  refine ⟨_, f4 D _ nDd e, by rw [List.length_map, l]; exact size_lt (by omega), ns ++ [x], ?_, by simp [l], o.append fun m hm => ?_, (f.trans f4).put hD, q4.put nDd (DA.nc hD)⟩
  · rw [upd_same, List.map_append]
    rfl
  · obtain rfl := List.mem_singleton.mp hm
    exact ⟨x0, x1⟩
def spPair : Sp := fun vs H Q _ => ∃ d c : Addr, vs = [.ref d] ∧ DrawAt H d c ∧ ∀ t a b ns H', Fr d H H' → DrawAt H' d c → H' t = some (.tup [a, b]) → TI H' b ns → Oct ns → ns.length ≤ 20 → Q (.ref t) H'
/-- what a part of the block gives: a list of octets -/
def spPiece (most : Nat) : Sp := fun vs H Q _ => ∃ d c l : Addr, vs = [.ref d, .ref l] ∧ DrawAt H d c ∧ WordsAt H l ∧ ∀ r ns H', Fr d H H' → DrawAt H' d c → H' r = some (.lst (ns.map V.int)) → Oct ns → ns.length ≤ most → Q (.ref r) H'
section
variable {P : Program} {w : World} {K : PySem.W.Frag} {mg : Str → Option Value} {base : Heap} {mt un hC hI hL hD aM aC aF : Addr}
theorem sc__law_pair : FnScope ["_law_draw_here", "_law_names", "_law_name", "_law_choice", "_law_value", "_law_k"] ["_law_draw_here"] (defScope sPair) := ⟨rfl, rfl, rfl, by decide +kernel, rfl, by decide +kernel, by decide +kernel⟩
theorem ok_pair {f : Addr} {fd : FuncData} (F : FnP K "_law_pair" "_law_pair" sPair f fd) (T : Tx K mg mt un hC hI hL hD aM aC aF) (G__law_take : HasF P w K mg base CX0 1 "_law_take" ["_law_draw_here", "_law_many"] spTake)
    (G__law_octets : HasF P w K mg base CX0 1 "_law_octets" ["_law_text"] spOctets) : FnOk P w K mg base CX0 2 f fd ["_law_draw_here"] spPair := by
  refine ok0 F sc__law_pair (fun vs H Q E h => ?_) (fun cdv A outer s H vs Q E hr h => ?_)
  · obtain ⟨d, c, rfl, _⟩ := h
    rfl
  obtain ⟨d, c, rfl, D, k⟩ := h
  refine ⟨_, (pss_cons (ps_set (i := 1) sc__law_pair.nd rfl (Or.inl rfl) (pe_lst (pa_cons pe_str (pa_cons pe_str (pa_cons pe_str (pa_cons pe_str (pa_cons pe_str (pa_cons pe_str (pa_cons pe_str (pa_cons pe_str (pa_cons pe_str (pa_cons pe_str (pa_cons pe_str pa_nil))))))))))))) (pss_cons (ps_set (i := 2) sc__law_pair.nd rfl (Or.inl rfl) (pe_f G__law_octets (hr.mono (by decide)) pass0 (pa_cons (pe_ix ix_list (pv 1) (pe_f G__law_take (hr.mono (by decide)) pass0 (pa_cons (pv 0) (pa_cons pe_int pa_nil))) (fun _ _ => rfl)) pa_nil))) (pss_cons (ps_set (i := 3) sc__law_pair.nd rfl (Or.inl rfl) (pe_f G__law_take (hr.mono (by decide)) pass0 (pa_cons (pv 0) (pa_cons pe_int pa_nil)))) (C8.pss_cut (ps_if (pt_cmpR op_eq (pv 3) pe_int (nomark _)) (pss_one (ps_set (i := 4) sc__law_pair.nd rfl (Or.inl rfl) (pe_f G__law_octets (hr.mono (by decide)) pass0 (pa_cons (pe_ix ix_list (pe_lst (pa_cons pe_str (pa_cons pe_str (pa_cons pe_str (pa_cons pe_str (pa_cons pe_str pa_nil)))))) (pe_f G__law_take (hr.mono (by decide)) pass0 (pa_cons (pv 0) (pa_cons pe_int pa_nil))) (fun _ _ => rfl)) pa_nil)))) (pss_one (ps_if (pt_cmpR op_lt (pv 3) pe_int (nomark _)) (pss_one (ps_set (i := 4) sc__law_pair.nd rfl (Or.inl rfl) (pe_callTy call_tuple_of (by rfl) T.tuple (by decide +kernel) (pa_cons (pe_lc (own := [(("_law_k" : Str), 5)]) (g := gName 5) (tt := tYes) rfl sc__law_pair.nd (pi_range1 rfl T.range (pa_cons (pe_f G__law_take (hr.mono (by decide)) pass0 (pa_cons (pv 0) (pa_cons pe_int pa_nil))) pa_nil)) (blkOk_by (own := [(("_law_k" : Str), 5)]) (N := ["_law_draw_here", "_law_names", "_law_name", "_law_choice", "_law_value", "_law_k"]) (sc := defScope sPair) (by decide +kernel)) (fun _ _ _ _ _ => pg_name (i := 5) sc__law_pair.nd rfl (Or.inl rfl)) (fun _ _ _ _ _ => pts_nil) (fun _ _ _ _ _ => (pe_op op_add pe_int (pe_f G__law_take (hr.mono (by decide)) pass0 (pa_cons (pv 0) (pa_cons pe_int pa_nil)))))) pa_nil)))) (pss_one (ps_if (pt_cmpR op_eq (pv 3) pe_int (nomark _)) (pss_one (ps_set (i := 4) sc__law_pair.nd rfl (Or.inl rfl) (pe_callTy call_tuple_of (by rfl) T.tuple (by decide +kernel) (pa_cons (pe_lc (own := [(("_law_k" : Str), 5)]) (g := gName 5) (tt := tYes) rfl sc__law_pair.nd (pi_range1 rfl T.range (pa_cons (pe_f G__law_take (hr.mono (by decide)) pass0 (pa_cons (pv 0) (pa_cons pe_int pa_nil))) pa_nil)) (blkOk_by (own := [(("_law_k" : Str), 5)]) (N := ["_law_draw_here", "_law_names", "_law_name", "_law_choice", "_law_value", "_law_k"]) (sc := defScope sPair) (by decide +kernel)) (fun _ _ _ _ _ => pg_name (i := 5) sc__law_pair.nd rfl (Or.inl rfl)) (fun _ _ _ _ _ => pts_nil) (fun _ _ _ _ _ => (pe_op op_add pe_int (pe_f G__law_take (hr.mono (by decide)) pass0 (pa_cons (pv 0) (pa_cons pe_int pa_nil)))))) pa_nil)))) (pss_one (ps_set (i := 4) sc__law_pair.nd rfl (Or.inl rfl) (pe_callTy call_tuple_of (by rfl) T.tuple (by decide +kernel) (pa_cons (pe_lc (own := [(("_law_k" : Str), 5)]) (g := gName 5) (tt := tYes) rfl sc__law_pair.nd (pi_range1 rfl T.range (pa_cons (pe_f G__law_take (hr.mono (by decide)) pass0 (pa_cons (pv 0) (pa_cons pe_int pa_nil))) pa_nil)) (blkOk_by (own := [(("_law_k" : Str), 5)]) (N := ["_law_draw_here", "_law_names", "_law_name", "_law_choice", "_law_value", "_law_k"]) (sc := defScope sPair) (by decide +kernel)) (fun _ _ _ _ _ => pg_name (i := 5) sc__law_pair.nd rfl (Or.inl rfl)) (fun _ _ _ _ _ => pts_nil) (fun _ _ _ _ _ => (pe_f G__law_take (hr.mono (by decide)) pass0 (pa_cons (pv 0) (pa_cons pe_int pa_nil))))) pa_nil))))))))) (pss_one (ps_ret (pe_tup (pa_cons (pv 2) (pa_cons (pv 4) pa_nil))))))))), ?_⟩
  refine ⟨by show 11 ≤ sizeLine; decide, fun nl hnl => ?_⟩
  have D1 := D.put (o := .lst [.str ":method", .str ":path", .str "accept", .str "x", .str "etag", .str "cookie", .str "x-y", .str ":scheme", .str "", .str "host", .str "vary"]) (D.nd hnl) (D.nc hnl)
  refine ⟨_, rfl, _, rfl, d, c, 11, rfl, D1, by decide, by decide, fun v H2 v0 v1 f2 D2 => ?_⟩
  have n2 := f2 nl _ (D.nd hnl) upd_same
  obtain ⟨z, ez, hz, _, _⟩ := str_at (zs := [":method", ":path", "accept", "x", "etag", "cookie", "x-y", ":scheme", "", "host", "vary"]) (by decide +kernel) v0 v1
  refine ⟨nl, _, _, _, rfl, rfl, SqL.of n2, ez, z, rfl, by omega, fun nm H3 s3 _ => ?_⟩
  have D3 := D2.same s3
  have f3 : Fr d H H3 := ((Fr.new hnl).trans f2).trans (Fr.of s3)
  refine ⟨_, rfl, d, c, 5, rfl, D3, by decide, by decide, fun ch H4 ch0 ch1 f4 D4 => ?_⟩
  have f4' := f3.trans f4
  refine ⟨fun σ' H' => ∃ (v : V) (ns : List Int), σ' = [some (.ref d), some (.ref nl), some nm, some (.int ch), some v, none] ∧ TI H' v ns ∧ Oct ns ∧ ns.length ≤ 20 ∧ Fr d H H' ∧ DrawAt H' d c, ?_, ?_⟩
  · refine ⟨_, rfl, rfl, _, rfl, ite2 (fun _ => ?_) (fun _ => ?_)⟩
    · refine ⟨by show 5 ≤ sizeLine; decide, fun ml hml => ?_⟩
      have D5 := D4.put (o := .lst [.str "GET", .str "/", .str "", .str "200", .str "http"]) (D4.nd hml) (D4.nc hml)
      refine ⟨_, rfl, d, c, 5, rfl, D5, by decide, by decide, fun u H6 u0 u1 f6 D6 => ?_⟩
      have n6 := f6 ml _ (D4.nd hml) upd_same
      obtain ⟨z, ez, hz, ho, hl⟩ := str_at (zs := ["GET", "/", "", "200", "http"]) (by decide +kernel) u0 u1
      refine ⟨ml, _, _, _, rfl, rfl, SqL.of n6, ez, z, rfl, by omega, fun vv H7 s7 t7 => ?_⟩
      exact ⟨vv, octs z, rfl, t7, ho, hl, ((f4'.newer hml).trans f6).trans (Fr.of s7), D6.same s7⟩
    have comp : ∀ {H5 H6 : Hp} {L t : Addr} {ns : List Int} {n m : Int}, 0 ≤ n → n < m → m ≤ 12 → Fr d H4 H5 → H5 L = none → ns.length = n.toNat → Oct ns → Fr d H5 H6 → DrawAt H6 d c → H6 t = none → ∃ (v : V) (ns' : List Int), [some (.ref d), some (.ref nl), some nm, some (.int ch), some (V.ref t), none] = [some (.ref d), some (.ref nl), some nm, some (.int ch), some v, none] ∧
        TI (upd H6 t (.tup (ns.map V.int))) v ns' ∧ Oct ns' ∧ ns'.length ≤ 20 ∧ Fr d H (upd H6 t (.tup (ns.map V.int))) ∧ DrawAt (upd H6 t (.tup (ns.map V.int))) d c := fun {H5 H6 L t ns n m} n0 n1 m12 f5 hL l o f6 q6 ht =>
      ⟨.ref t, ns, rfl, ⟨t, rfl, upd_same⟩, o, by omega, ((f4'.trans f5).trans f6).newer ht, q6.put (q6.nd ht) (q6.nc ht)⟩
    refine ⟨_, rfl, _, _, rfl, rfl, _, rfl, ite2 (fun _ => ?_) (fun _ => ?_)⟩
    · refine ⟨_, rfl, d, c, 3, rfl, D4, by decide, by decide, fun n H5 n0 n1 f5 D5 => ⟨_, rfl, by omega, by omega, fun L hL => lc_draws (n := n.toNat) (k := 5) (by omega) hL D5 (fun _ => rfl) (fun i H' Qy q h => ?_) fun H6 ns e l o f6 q6 => ⟨L, _, rfl, .inl ⟨SqL.of e, fun t ht => comp n0 n1 (by decide) f5 hL l o f6 q6 ht⟩⟩⟩⟩
      exact ⟨_, rfl, d, c, 3, rfl, q, by decide, by decide, fun x H7 x0 x1 f7 q7 => ⟨_, _, rfl, rfl, h _ _ (by omega) (by omega) f7 q7⟩⟩
    refine ⟨_, rfl, rfl, _, rfl, ite2 (fun _ => ?_) (fun _ => ?_)⟩
    · refine ⟨_, rfl, d, c, 12, rfl, D4, by decide, by decide, fun n H5 n0 n1 f5 D5 => ⟨_, rfl, by omega, by omega, fun L hL => lc_draws (n := n.toNat) (k := 5) (by omega) hL D5 (fun _ => rfl) (fun i H' Qy q h => ?_) fun H6 ns e l o f6 q6 => ⟨L, _, rfl, .inl ⟨SqL.of e, fun t ht => comp n0 n1 (by decide) f5 hL l o f6 q6 ht⟩⟩⟩⟩
      exact ⟨_, rfl, d, c, 95, rfl, q, by decide, by decide, fun x H7 x0 x1 f7 q7 => ⟨_, _, rfl, rfl, h _ _ (by omega) (by omega) f7 q7⟩⟩
    · refine ⟨_, rfl, d, c, 6, rfl, D4, by decide, by decide, fun n H5 n0 n1 f5 D5 => ⟨_, rfl, by omega, by omega, fun L hL => lc_draws (n := n.toNat) (k := 5) (by omega) hL D5 (fun _ => rfl) (fun i H' Qy q h => ?_) fun H6 ns e l o f6 q6 => ⟨L, _, rfl, .inl ⟨SqL.of e, fun t ht => comp n0 n1 (by decide) f5 hL l o f6 q6 ht⟩⟩⟩⟩
      exact ⟨_, rfl, d, c, 256, rfl, q, by decide, by decide, fun x H7 x0 x1 f7 q7 => h _ _ x0 x1 f7 q7⟩
  · rintro σ' H' ⟨v, ns, rfl, tv, ho, hl, f', D'⟩
    refine ⟨_, rfl, _, rfl, by show 2 ≤ sizeLine; decide, fun t ht => ?_⟩
    exact k t nm v ns _ (f'.newer ht) (D'.put (D'.nd ht) (D'.nc ht)) upd_same (tv.kt (Same.nw ht).kt) ho hl
theorem sc__law_string : FnScope ["_law_draw_here", "_law_words_here", "_law_octets_here", "_law_row"] ["_law_draw_here", "_law_words_here"] (defScope sString) := ⟨rfl, rfl, rfl, by decide +kernel, rfl, by decide +kernel, by decide +kernel⟩
theorem ok_string {f : Addr} {fd : FuncData} (F : FnP K "_law_string" "_law_string" sString f fd) (T : Tx K mg mt un hC hI hL hD aM aC aF) (G__law_take : HasF P w K mg base CX0 1 "_law_take" ["_law_draw_here", "_law_many"] spTake)
    (G__law_pair : HasF P w K mg base CX0 2 "_law_pair" ["_law_draw_here"] spPair) (G__law_coded : HasF P w K mg base CX0 1 "_law_coded" ["_law_octets_here", "_law_words_here"] spCoded) (G__law_int : HasF P w K mg base CX0 1 "_law_int" ["_law_n", "_law_value", "_law_first"] spInt)
    (G__law_wide : HasF P w K mg base CX0 2 "_law_wide" ["_law_draw_here", "_law_row"] spWide) : FnOk P w K mg base CX0 3 f fd ["_law_draw_here", "_law_words_here"] (spPiece 200) := by
  refine ok0 F sc__law_string (fun vs H Q E h => ?_) (fun cdv A outer s H vs Q E hr h => ?_)
  · obtain ⟨d, c, l, rfl, _⟩ := h
    rfl
  obtain ⟨d, c, l, rfl, D, W, k⟩ := h
  have nl : l ≠ d := W.ne D
  refine ⟨_, (pss_cons (ps_set (i := 2) sc__law_string.nd rfl (Or.inl rfl) (pe_ix ix_tup (pe_f G__law_pair (hr.mono (by decide)) pass0 (pa_cons (pv 0) pa_nil)) pe_int (fun _ _ => rfl))) (pss_cons (ps_if (pt_cmpR op_eq (pe_f G__law_take (hr.mono (by decide)) pass0 (pa_cons (pv 0) (pa_cons pe_int pa_nil))) pe_int (nomark _)) (pss_cons (ps_set (i := 3) sc__law_string.nd rfl (Or.inl rfl) (pe_f G__law_coded (hr.mono (by decide)) pass0 (pa_cons (pv 2) (pa_cons (pv 1) pa_nil)))) (pss_one (ps_ret (pe_op op_cat (pe_f G__law_wide (hr.mono (by decide)) pass0 (pa_cons (pv 0) (pa_cons (pe_f G__law_int (hr.mono (by decide)) pass0 (pa_cons pe_int (pa_cons (pe_callB call_len_seq (by rfl) T.len (by decide +kernel) (pa_cons (pv 3) pa_nil)) (pa_cons pe_int pa_nil)))) pa_nil))) (pv 3))))) pss_nil) (pss_one (ps_ret (pe_op op_cat (pe_f G__law_wide (hr.mono (by decide)) pass0 (pa_cons (pv 0) (pa_cons (pe_f G__law_int (hr.mono (by decide)) pass0 (pa_cons pe_int (pa_cons (pe_callB call_len_seq (by rfl) T.len (by decide +kernel) (pa_cons (pv 2) pa_nil)) (pa_cons pe_int pa_nil)))) pa_nil))) (pe_callTy call_list_of (by rfl) T.list (by decide +kernel) (pa_cons (pv 2) pa_nil))))))), ?_⟩
  refine ⟨_, rfl, d, c, rfl, D, fun t a b ns H1 f1 D1 ht tb ho hl => ⟨t, _, _, _, rfl, rfl, SqT.of ht, rfl, ?_⟩⟩
  have W1 := W.fr f1 nl (f1.kt (draw_nt D))
  refine ⟨_, rfl, d, c, 2, rfl, D1, by decide, by decide, fun u H2 _ _ f2 D2 => ⟨rfl, _, rfl, ?_⟩⟩
  have kt2 := f2.kt (draw_nt D1)
  have W2 := W1.fr f2 nl kt2
  have tb2 := tb.kt kt2
  have f02 := f1.trans f2
  refine ite2 (fun _ => ?_) (fun _ => ?_)
  · refine ⟨_, rfl, _, rfl, b, l, ns, rfl, tb2, ho, by omega, W2, fun r ns' H3 s3 _ hr3 ho' hl' => ?_⟩
    have D3 := D2.same s3
    refine ⟨_, rfl, _, rfl, r, _, rfl, .inl (SqL.of hr3), 7, _, 128, rfl, by decide, by decide, by omega, by rw [List.length_map]; omega, by decide, by decide, fun r2 ns2 H4 s4 _ h4 ir => ?_⟩
    have D4 := D3.same s4
    have hr4 := s4 _ _ hr3
    refine ⟨d, c, r2, ns2, rfl, D4, h4, ir.1, by have := ir.2.2.1; omega, ir.2.2.2, fun r3 ns3 H5 f5 D5 h5 o5 l5 => ?_⟩
    have hr5 := f5 r _ (ne_draw D4 hr4) hr4
    refine ⟨_, rfl, rd_cat h5 hr5 (by rw [List.length_map, List.length_map]; have := ir.2.2.1; omega) fun p H6 s6 _ h6 => ?_⟩
    refine k p (ns3 ++ ns') H6 ((((f02.trans (Fr.of s3)).trans (Fr.of s4)).trans f5).trans (Fr.of s6)) (D5.same s6) (by rw [h6, List.map_append]) (o5.append ho') ?_
    rw [List.length_append]
    have := ir.2.2.1
    omega
  · obtain ⟨tt, rfl, htt⟩ := tb2
    refine ⟨_, rfl, _, rfl, tt, _, rfl, .inr (SqT.of htt), 7, _, 0, rfl, by decide, by decide, by omega, by rw [List.length_map]; omega, by decide, by decide, fun r2 ns2 H4 s4 _ h4 ir => ?_⟩
    have D4 := D2.same s4
    refine ⟨d, c, r2, ns2, rfl, D4, h4, ir.1, by have := ir.2.2.1; omega, ir.2.2.2, fun r3 ns3 H5 f5 D5 h5 o5 l5 => ?_⟩
    have htt5 : H5 tt = some (.tup (ns.map V.int)) := f5.tup (draw_nt D4) (s4 _ _ htt)
    refine ⟨_, rfl, tt, _, rfl, .inr (SqT.of htt5), fun q hq => ?_⟩
    have D6 := D5.put (o := .lst (ns.map V.int)) (D5.nd hq) (D5.nc hq)
    refine rd_cat ((Same.nw hq) _ _ h5) upd_same (by rw [List.length_map, List.length_map]; have := ir.2.2.1; omega) fun p H7 s7 _ h7 => ?_
    refine k p (ns3 ++ ns) H7 ((((f02.trans (Fr.of s4)).trans f5).newer hq).trans (Fr.of s7)) (D6.same s7) (by rw [h7, List.map_append]) (o5.append ho) ?_
    rw [List.length_append]
    have := ir.2.2.1
    omega
theorem sc__law_part : FnScope ["_law_draw_here", "_law_words_here", "_law_choice", "_law_number", "_law_row"] ["_law_draw_here", "_law_words_here"] (defScope sPart) := ⟨rfl, rfl, rfl, by decide +kernel, rfl, by decide +kernel, by decide +kernel⟩
theorem ok_part {f : Addr} {fd : FuncData} (F : FnP K "_law_part" "_law_part" sPart f fd) (T : Tx K mg mt un hC hI hL hD aM aC aF) (G__law_take : HasF P w K mg base CX0 1 "_law_take" ["_law_draw_here", "_law_many"] spTake)
    (G__law_int : HasF P w K mg base CX0 1 "_law_int" ["_law_n", "_law_value", "_law_first"] spInt) (G__law_wide : HasF P w K mg base CX0 2 "_law_wide" ["_law_draw_here", "_law_row"] spWide) (G__law_string : HasF P w K mg base CX0 3 "_law_string" ["_law_draw_here", "_law_words_here"] (spPiece 200)) : FnOk P w K mg base CX0 4 f fd ["_law_draw_here", "_law_words_here"] (spPiece 500) := by
  refine ok0 F sc__law_part (fun vs H Q E h => ?_) (fun cdv A outer s H vs Q E hr h => ?_)
  · obtain ⟨d, c, l, rfl, _⟩ := h
    rfl
  obtain ⟨d, c, l, rfl, D, W, k⟩ := h
  have nl : l ≠ d := W.ne D
  refine ⟨_, (pss_cons (ps_set (i := 2) sc__law_part.nd rfl (Or.inl rfl) (pe_f G__law_take (hr.mono (by decide)) pass0 (pa_cons (pv 0) (pa_cons pe_int pa_nil)))) (pss_cons (ps_set (i := 3) sc__law_part.nd rfl (Or.inl rfl) (pe_ix ix_list (pe_lst (pa_cons (pe_f G__law_take (hr.mono (by decide)) pass0 (pa_cons (pv 0) (pa_cons pe_int pa_nil))) (pa_cons pe_int (pa_cons pe_int (pa_cons (pe_op op_add pe_int (pe_f G__law_take (hr.mono (by decide)) pass0 (pa_cons (pv 0) (pa_cons pe_int pa_nil)))) pa_nil))))) (pe_f G__law_take (hr.mono (by decide)) pass0 (pa_cons (pv 0) (pa_cons pe_int pa_nil))) (fun _ _ => rfl))) (pss_cons (ps_if (pt_cmpR op_eq (pv 2) pe_int (nomark _)) (pss_one (ps_ret (pe_f G__law_wide (hr.mono (by decide)) pass0 (pa_cons (pv 0) (pa_cons (pe_f G__law_int (hr.mono (by decide)) pass0 (pa_cons pe_int (pa_cons (pv 3) (pa_cons pe_int pa_nil)))) pa_nil))))) pss_nil) (pss_cons (ps_set (i := 4) sc__law_part.nd rfl (Or.inl rfl) (pe_ix ix_list (pe_lst (pa_cons (pe_f G__law_int (hr.mono (by decide)) pass0 (pa_cons pe_int (pa_cons (pv 3) (pa_cons pe_int pa_nil)))) (pa_cons (pe_f G__law_int (hr.mono (by decide)) pass0 (pa_cons pe_int (pa_cons (pv 3) (pa_cons pe_int pa_nil)))) (pa_cons (pe_f G__law_int (hr.mono (by decide)) pass0 (pa_cons pe_int (pa_cons (pv 3) (pa_cons pe_int pa_nil)))) pa_nil)))) (pe_op op_sub (pv 2) pe_int) (fun _ _ => rfl))) (C8.pss_cut (ps_if (pt_cmpR op_eq (pv 3) pe_int (nomark _)) (pss_one (ps_set (i := 4) sc__law_part.nd rfl (Or.inl rfl) (pe_op op_cat (pv 4) (pe_f G__law_string (hr.mono (by decide)) pass0 (pa_cons (pv 0) (pa_cons (pv 1) pa_nil)))))) pss_nil) (pss_one (ps_ret (pe_op op_cat (pe_op op_cat (pe_f G__law_wide (hr.mono (by decide)) pass0 (pa_cons (pv 0) (pa_cons (pe_slice sl_list (pv 4) po_none (po_some pe_int)) pa_nil))) (pe_slice sl_list (pv 4) (po_some pe_int) po_none)) (pe_f G__law_string (hr.mono (by decide)) pass0 (pa_cons (pv 0) (pa_cons (pv 1) pa_nil))))))))))), ?_⟩
  refine ⟨_, rfl, d, c, 4, rfl, D, by decide, by decide, fun ch H1 ch0 ch1 f1 D1 => ?_⟩
  refine ⟨_, rfl, d, c, 33, rfl, D1, by decide, by decide, fun n1 H2 n10 n11 f2 D2 => ?_⟩
  refine ⟨_, rfl, d, c, 23, rfl, D2, by decide, by decide, fun n2 H3 n20 n21 f3 D3 => ⟨_, _, rfl, rfl, by show 4 ≤ sizeLine; decide, fun ml hml => ?_⟩⟩
  have D4 := D3.put (o := .lst [.int n1, .int 24, .int 0, .int (1 + n2)]) (D3.nd hml) (D3.nc hml)
  refine ⟨_, rfl, d, c, 4, rfl, D4, by decide, by decide, fun ix H5 ix0 ix1 f5 D5 => ?_⟩
  have m5 := f5 ml _ (D3.nd hml) upd_same
  obtain ⟨n, en, hn⟩ := int_at (ns := [n1, 24, 0, 1 + n2]) ix0 ix1
  refine ⟨ml, _, _, _, rfl, rfl, SqL.of m5, en, ?_⟩
  have n0 : 0 ≤ n ∧ n < 40 := by
    simp only [List.mem_cons, List.not_mem_nil, or_false] at hn
    omega
  have f05 : Fr d H H5 := (((f1.trans f2).trans f3).newer hml).trans f5
  have W5 := W.fr f05 nl (f05.kt (draw_nt D))
  refine ⟨_, rfl, rfl, _, rfl, ite2 (fun _ => ?_) (fun c0 => ?_)⟩
  · refine ⟨_, rfl, _, rfl, 7, n, 128, rfl, by decide, by decide, n0.1, by omega, by decide, by decide, fun r2 ns2 H6 s6 _ h6 ir => ?_⟩
    have D6 := D5.same s6
    refine ⟨d, c, r2, ns2, rfl, D6, h6, ir.1, by have := ir.2.2.1; omega, ir.2.2.2, fun r3 ns3 H7 f7 D7 h7 o7 l7 => ?_⟩
    exact k r3 ns3 H7 ((f05.trans (Fr.of s6)).trans f7) D7 h7 o7 (by have := ir.2.2.1; omega)
  have hc0 : ch ≠ 0 := fun e => c0 (decide_eq_true (by rw [e]))
  refine ⟨_, rfl, 6, n, 64, rfl, by decide, by decide, n0.1, by omega, by decide, by decide, fun ra na Ha sa a0 ha ia => ?_⟩
  refine ⟨_, rfl, 4, n, 0, rfl, by decide, by decide, n0.1, by omega, by decide, by decide, fun rb nb Hb sb b0 hb ib => ?_⟩
  refine ⟨_, rfl, 4, n, 16, rfl, by decide, by decide, n0.1, by omega, by decide, by decide, fun rc nc Hc sc c0' hc ic => ?_⟩
  refine ⟨by show 3 ≤ sizeLine; decide, fun lm hlm => ⟨_, rfl, _, _, rfl, rfl, ?_⟩⟩
  have sA : Same H5 (upd Hc lm (.lst [.ref ra, .ref rb, .ref rc])) := (((sa.trans sb).trans sc).nwr hlm)
  have f06 := f05.trans (Fr.of sA)
  have D6 := D5.same sA
  have W6 := W5.same sA
  have item : ∃ (rr : Addr) (nr : List Int), atI [V.ref ra, .ref rb, .ref rc] (ch - 1) = some (.ref rr) ∧ upd Hc lm (.lst [.ref ra, .ref rb, .ref rc]) rr = some (.lst (nr.map V.int)) ∧ IntRow nr := by
    have : ch = 1 ∨ ch = 2 ∨ ch = 3 := by omega
    rcases this with rfl | rfl | rfl
    · exact ⟨ra, na, rfl, (Same.nw hlm) _ _ (sc _ _ (sb _ _ ha)), ia⟩
    · exact ⟨rb, nb, rfl, (Same.nw hlm) _ _ (sc _ _ hb), ib⟩
    · exact ⟨rc, nc, rfl, (Same.nw hlm) _ _ hc, ic⟩
  obtain ⟨rr, nr, er, hrr, ir⟩ := item
  refine ⟨lm, _, _, _, rfl, rfl, SqL.of upd_same, er, ?_⟩
  generalize upd Hc lm (.lst [.ref ra, .ref rb, .ref rc]) = H6 at *
  refine ⟨fun σ' H' => ∃ (row : Addr) (ns : List Int), σ' = [some (.ref d), some (.ref l), some (.int ch), some (.int n), some (.ref row)] ∧ H' row = some (.lst (ns.map V.int)) ∧ Oct ns ∧ 1 ≤ ns.length ∧ ns.length ≤ 204 ∧ Fr d H H' ∧ DrawAt H' d c ∧ WordsAt H' l, ?_, ?_⟩
  · refine ⟨_, rfl, rfl, _, rfl, ite2 (fun _ => ?_) (fun _ => ⟨rr, nr, rfl, hrr, ir.1, ir.2.1, by have := ir.2.2.1; omega, f06, D6, W6⟩)⟩
    refine ⟨_, rfl, _, rfl, _, rfl, d, c, l, rfl, D6, W6, fun r7 n7 H7 f7 D7 h7 o7 l7 => ?_⟩
    have hrr7 := f7 rr _ (ne_draw D6 hrr) hrr
    have W7 := W6.fr f7 nl (f7.kt (draw_nt D6))
    refine rd_cat hrr7 h7 (by rw [List.length_map, List.length_map]; have := ir.2.2.1; omega) fun p H8 s8 _ h8 => ?_
    exact ⟨p, nr ++ n7, rfl, by rw [h8, List.map_append], ir.1.append o7, by rw [List.length_append]; have := ir.2.1; omega, by rw [List.length_append]; have := ir.2.2.1; omega, (f06.trans f7).trans (Fr.of s8), D7.same s8, W7.same s8⟩
  · rintro σ' H' ⟨row, ns, rfl, hrow, ho, l1, l2, f', D', W'⟩
    refine ⟨_, rfl, _, rfl, _, rfl, row, _, rfl, SqL.of hrow, fun p hp => ?_⟩
    rw [show ((1 : Int)) = ((1 : Nat) : Int) from rfl, cut_take, ← List.map_take]
    have D1' := D'.put (o := .lst ((ns.take 1).map V.int)) (D'.nd hp) (D'.nc hp)
    refine ⟨d, c, p, ns.take 1, rfl, D1', upd_same, ho.take 1, by rw [List.length_take]; omega, fun z => absurd z (by rw [List.length_take]; omega), fun r8 n8 H8 f8 D8 h8 o8 l8 => ?_⟩
    have hrow1 := (Same.nw (o := .lst ((ns.take 1).map V.int)) hp) _ _ hrow
    have hrow8 := f8 row _ (ne_draw D1' hrow1) hrow1
    refine ⟨_, rfl, _, rfl, row, _, rfl, SqL.of hrow8, fun q hq => ?_⟩
    rw [cut_drop, ← List.map_drop]
    have D9 := D8.put (o := .lst ((ns.drop 1).map V.int)) (D8.nd hq) (D8.nc hq)
    refine rd_cat ((Same.nw hq) _ _ h8) upd_same (by rw [List.length_map, List.length_map, List.length_drop]; rw [List.length_take] at l8; omega) fun p2 Ha2 sa2 _ ha2 => ?_
    have Da := D9.same sa2
    have W1' := W'.same (Same.nw (o := .lst ((ns.take 1).map V.int)) hp)
    have W8 := W1'.fr f8 nl (f8.kt (draw_nt D1'))
    have Wa := (W8.same (Same.nw (o := .lst ((ns.drop 1).map V.int)) hq)).same sa2
    rw [← List.map_append] at ha2
    refine ⟨_, rfl, _, rfl, d, c, l, rfl, Da, Wa, fun r3 n3 Hb3 f3' D3' h3' o3 l3 => ?_⟩
    have ha3 := f3' p2 _ (ne_draw Da ha2) ha2
    refine rd_cat ha3 h3' (by rw [List.length_map, List.length_map, List.length_append, List.length_drop]; rw [List.length_take] at l8; omega) fun p4 H4' s4' _ h4' => ?_
    refine k p4 (n8 ++ ns.drop 1 ++ n3) H4' ((((((f'.newer hp).trans f8).newer hq).trans (Fr.of sa2)).trans f3').trans (Fr.of s4')) (D3'.same s4') (by rw [h4', ← List.map_append]) ((o8.append (ho.drop 1)).append o3) ?_
    rw [List.length_append, List.length_append, List.length_drop]
    rw [List.length_take] at l8
    omega
theorem sc__law_block : FnScope ["_law_draw_here", "_law_words_here", "_law_row", "_law_k", "_law_choice"] ["_law_draw_here", "_law_words_here"] (defScope sBlock) := ⟨rfl, rfl, rfl, by decide +kernel, rfl, by decide +kernel, by decide +kernel⟩
theorem ok_block {f : Addr} {fd : FuncData} (F : FnP K "_law_block" "_law_block" sBlock f fd) (T : Tx K mg mt un hC hI hL hD aM aC aF) (G__law_take : HasF P w K mg base CX0 1 "_law_take" ["_law_draw_here", "_law_many"] spTake)
    (G__law_int : HasF P w K mg base CX0 1 "_law_int" ["_law_n", "_law_value", "_law_first"] spInt) (G__law_wide : HasF P w K mg base CX0 2 "_law_wide" ["_law_draw_here", "_law_row"] spWide) (G__law_part : HasF P w K mg base CX0 4 "_law_part" ["_law_draw_here", "_law_words_here"] (spPiece 500)) : FnOk P w K mg base CX0 5 f fd ["_law_draw_here", "_law_words_here"] (spPiece 4000) := by
  refine ok0 F sc__law_block (fun vs H Q E h => ?_) (fun cdv A outer s H vs Q E hr h => ?_)
  · obtain ⟨d, c, l, rfl, _⟩ := h
    rfl
  obtain ⟨d, c, l, rfl, D, W, k⟩ := h
  have nl : l ≠ d := W.ne D
  refine ⟨_, (pss_cons (ps_set (i := 2) sc__law_block.nd rfl (Or.inl rfl) (pe_lst pa_nil)) (pss_cons (ps_for PassesOwn.never rfl (pi_range1 rfl T.range (pa_cons (pe_ix ix_list (pe_lst (pa_cons pe_int (pa_cons pe_int (pa_cons pe_int (pa_cons pe_int (pa_cons pe_int pa_nil)))))) (pe_f G__law_take (hr.mono (by decide)) pass0 (pa_cons (pv 0) (pa_cons pe_int pa_nil))) (fun _ _ => rfl)) pa_nil)) (pg_name (i := 3) sc__law_block.nd rfl (Or.inl rfl)) (pss_one (ps_set (i := 2) sc__law_block.nd rfl (Or.inl rfl) (pe_op op_cat (pv 2) (pe_f G__law_wide (hr.mono (by decide)) pass0 (pa_cons (pv 0) (pa_cons (pe_f G__law_int (hr.mono (by decide)) pass0 (pa_cons pe_int (pa_cons (pe_ix ix_list (pe_lst (pa_cons pe_int (pa_cons pe_int (pa_cons pe_int (pa_cons pe_int (pa_cons pe_int pa_nil)))))) (pe_f G__law_take (hr.mono (by decide)) pass0 (pa_cons (pv 0) (pa_cons pe_int pa_nil))) (fun _ _ => rfl)) (pa_cons pe_int pa_nil)))) pa_nil))))))) (pss_cons (ps_for PassesOwn.never rfl (pi_range1 rfl T.range (pa_cons (pe_f G__law_take (hr.mono (by decide)) pass0 (pa_cons (pv 0) (pa_cons pe_int pa_nil))) pa_nil)) (pg_name (i := 3) sc__law_block.nd rfl (Or.inl rfl)) (pss_cons (ps_set (i := 2) sc__law_block.nd rfl (Or.inl rfl) (pe_op op_cat (pv 2) (pe_f G__law_part (hr.mono (by decide)) pass0 (pa_cons (pv 0) (pa_cons (pv 1) pa_nil))))) (pss_one (ps_if (pt_cmpR op_eq (pe_f G__law_take (hr.mono (by decide)) pass0 (pa_cons (pv 0) (pa_cons pe_int pa_nil))) pe_int (nomark _)) (pss_one (ps_set (i := 2) sc__law_block.nd rfl (Or.inl rfl) (pe_op op_cat (pv 2) (pe_f G__law_int (hr.mono (by decide)) pass0 (pa_cons pe_int (pa_cons pe_int (pa_cons pe_int pa_nil))))))) pss_nil)))) (pss_cons (ps_set (i := 4) sc__law_block.nd rfl (Or.inl rfl) (pe_f G__law_take (hr.mono (by decide)) pass0 (pa_cons (pv 0) (pa_cons pe_int pa_nil)))) (C8.pss_cut (ps_if (PW.pt (pw_and (pt_cmpR op_eq (pv 4) pe_int (nomark _)) (pw_and1 (pt_cmpR op_gt (pe_callB call_len_seq (by rfl) T.len (by decide +kernel) (pa_cons (pv 2) pa_nil)) pe_int (nomark _))))) (pss_one (ps_asg (pe_f G__law_take (hr.mono (by decide)) pass0 (pa_cons (pv 0) (pa_cons pe_int pa_nil))) (pg_sub (pv 2) (pe_f G__law_take (hr.mono (by decide)) pass0 (pa_cons (pv 0) (pa_cons (pe_callB call_len_seq (by rfl) T.len (by decide +kernel) (pa_cons (pv 2) pa_nil)) pa_nil))) set_list))) pss_nil) (C8.pss_cut (ps_if (PW.pt (pw_and (pt_cmpR op_eq (pv 4) pe_int (nomark _)) (pw_and1 (pt_cmpR op_gt (pe_callB call_len_seq (by rfl) T.len (by decide +kernel) (pa_cons (pv 2) pa_nil)) pe_int (nomark _))))) (pss_one (ps_set (i := 2) sc__law_block.nd rfl (Or.inl rfl) (pe_slice sl_list (pv 2) po_none (po_some (pe_f G__law_take (hr.mono (by decide)) pass0 (pa_cons (pv 0) (pa_cons (pe_callB call_len_seq (by rfl) T.len (by decide +kernel) (pa_cons (pv 2) pa_nil)) pa_nil))))))) pss_nil) (pss_one (ps_ret (pv 2))))))))), ?_⟩
  refine ⟨Nat.zero_le _, fun r0 hr0 => ?_⟩
  have D0 := D.put (o := .lst []) (D.nd hr0) (D.nc hr0)
  refine ⟨by show 5 ≤ sizeLine; decide, fun ml hml => ?_⟩
  have D0' := D0.put (o := .lst [.int 0, .int 0, .int 1, .int 2, .int 3]) (D0.nd hml) (D0.nc hml)
  refine ⟨_, rfl, d, c, 5, rfl, D0', by decide, by decide, fun ix H1 ix0 ix1 f1 D1 => ?_⟩
  have m1 := f1 ml _ (D0.nd hml) upd_same
  obtain ⟨n, en, hn⟩ := int_at (ns := [0, 0, 1, 2, 3]) ix0 ix1
  have n0 : 0 ≤ n ∧ n ≤ 3 := by
    simp only [List.mem_cons, List.not_mem_nil, or_false] at hn
    omega
  have f01 : Fr d H H1 := (((Fr.refl d H).newer hr0).newer hml).trans f1
  have r1 : H1 r0 = some (.lst ([].map V.int)) := f1 r0 _ (D.nd hr0) ((Same.nw hml) _ _ upd_same)
  -- what holds of the row between two turns
  refine ⟨ml, _, _, _, rfl, rfl, SqL.of m1, en, _, rfl, by omega, by omega, for_range (lo := 0) (n := n.toNat) (fun i σ' H' => ∃ (row : Addr) (ns : List Int) (v : Option V), σ' = [some (.ref d), some (.ref l), some (.ref row), v, none] ∧ H' row = some (.lst (ns.map V.int)) ∧ H row = none ∧ Oct ns ∧ ns.length ≤ 5 * i ∧ Fr d H H' ∧ DrawAt H' d c)
    ⟨r0, [], none, rfl, r1, hr0, (fun _ h => by cases h), Nat.le_refl _, f01, D1⟩ ?_ ?_⟩
  · rintro i σ' H' hi ⟨row, ns, v, rfl, hrow, rn, ho, hl, f', D'⟩
    refine ⟨_, rfl, _, rfl, by show 5 ≤ sizeLine; decide, fun m2 hm2 => ?_⟩
    have D2 := D'.put (o := .lst [.int 0, .int 40, .int 90, .int 4096, .int 4097]) (D'.nd hm2) (D'.nc hm2)
    refine ⟨_, rfl, d, c, 5, rfl, D2, by decide, by decide, fun ix H3 ix0 ix1 f3 D3 => ?_⟩
    have m3 := f3 m2 _ (D'.nd hm2) upd_same
    obtain ⟨u, eu, hu⟩ := int_at (ns := [0, 40, 90, 4096, 4097]) ix0 ix1
    have u0 : 0 ≤ u ∧ u < 32768 := by
      simp only [List.mem_cons, List.not_mem_nil, or_false] at hu
      omega
    have hrow2 := (Same.nw (o := .lst [.int 0, .int 40, .int 90, .int 4096, .int 4097]) hm2) _ _ hrow
    have hrow3 := f3 row _ (ne_draw D2 hrow2) hrow2
    refine ⟨m2, _, _, _, rfl, rfl, SqL.of m3, eu, 5, u, 32, rfl, by decide, by decide, u0.1, u0.2, by decide, by decide, fun ra na H4 s4 _ h4 ia => ?_⟩
    have D4 := D3.same s4
    refine ⟨d, c, ra, na, rfl, D4, h4, ia.1, by have := ia.2.2.1; omega, ia.2.2.2, fun rb nb H5 f5 D5 h5 o5 l5 => ?_⟩
    have hrow4 := s4 _ _ hrow3
    have hrow5 := f5 row _ (ne_draw D4 hrow4) hrow4
    have f'' := (((f'.newer hm2).trans f3).trans (Fr.of s4)).trans f5
    refine rd_cat hrow5 h5 (by rw [List.length_map, List.length_map]; have := ia.2.2.1; omega) fun p H6 s6 p0 h6 => ?_
    refine ⟨p, ns ++ nb, _, rfl, by rw [h6, List.map_append], ?_, ho.append o5, by rw [List.length_append]; have := ia.2.2.1; omega, f''.trans (Fr.of s6), D5.same s6⟩
    exact f''.free p0 (D5.nd p0)
  rintro σ1 H2 ⟨row, ns, v, rfl, hrow, rn, ho, hl, f', D'⟩
  refine ⟨_, rfl, d, c, 7, rfl, D', by decide, by decide, fun m H3 m0 m7 f3 D3 => ?_⟩
  have hrow3 := f3 row _ (ne_draw D' hrow) hrow
  refine ⟨_, rfl, by omega, by omega, for_range (lo := 0) (n := m.toNat) (fun i σ' H' => ∃ (row : Addr) (ns : List Int) (v : Option V), σ' = [some (.ref d), some (.ref l), some (.ref row), v, none] ∧ H' row = some (.lst (ns.map V.int)) ∧ H row = none ∧ Oct ns ∧ ns.length ≤ 15 + 504 * i ∧ Fr d H H' ∧ DrawAt H' d c)
    ⟨row, ns, v, rfl, hrow3, rn, ho, by omega, f'.trans f3, D3⟩ ?_ ?_⟩
  · rintro i σ' H' hi ⟨row, ns, v, rfl, hrow, rn, ho, hl, f', D'⟩
    have W' := W.fr f' nl (f'.kt (draw_nt D))
    refine ⟨_, rfl, _, rfl, _, rfl, d, c, l, rfl, D', W', fun rb nb H5 f5 D5 h5 o5 l5 => ?_⟩
    have hrow5 := f5 row _ (ne_draw D' hrow) hrow
    refine rd_cat hrow5 h5 (by rw [List.length_map, List.length_map]; omega) fun p H6 s6 p0 h6 => ?_
    have f6 := (f'.trans f5).trans (Fr.of s6)
    have D6 := D5.same s6
    have pn := (f'.trans f5).free p0 (D5.nd p0)
    rw [← List.map_append] at h6
    refine ⟨_, rfl, d, c, 24, rfl, D6, by decide, by decide, fun u H7 _ _ f7 D7 => ⟨rfl, _, rfl, ?_⟩⟩
    have h7 := f7 p _ (ne_draw D6 h6) h6
    refine ite2 (fun _ => ?_) (fun _ => ⟨p, ns ++ nb, _, rfl, h7, pn, ho.append o5, by rw [List.length_append]; omega, f6.trans f7, D7⟩)
    refine ⟨_, rfl, 5, 80, 32, rfl, by decide, by decide, by decide, by decide, by decide, by decide, fun ra na H8 s8 _ h8 ia => ?_⟩
    refine rd_cat (s8 _ _ h7) h8 (by rw [List.length_map, List.length_map, List.length_append]; have := ia.2.2.1; omega) fun q H9 s9 q0 h9 => ?_
    have f8 := (f6.trans f7).trans (Fr.of s8)
    refine ⟨q, ns ++ nb ++ na, _, rfl, by rw [h9, ← List.map_append], f8.free q0 ((D7.same s8).nd q0), (ho.append o5).append ia.1, by rw [List.length_append, List.length_append]; have := ia.2.2.1; omega, f8.trans (Fr.of s9), (D7.same s8).same s9⟩
  rintro σ2 H4 ⟨row, ns, v, rfl, hrow, rn, ho, hl, f', D'⟩
  have hl4 : ns.length ≤ 4000 := by omega
  refine ⟨_, rfl, d, c, 6, rfl, D', by decide, by decide, fun ch H5 _ _ f5 D5 => ?_⟩
  have hrow5 := f5 row _ (ne_draw D' hrow) hrow
  have f05 := f'.trans f5
  refine ⟨fun σ' H' => ∃ (ns : List Int), σ' = [some (.ref d), some (.ref l), some (.ref row), v, some (.int ch)] ∧ H' row = some (.lst (ns.map V.int)) ∧ Oct ns ∧ ns.length ≤ 4000 ∧ Fr d H H' ∧ DrawAt H' d c, ?_, ?_⟩
  · refine ⟨_, rfl, rfl, _, rfl, ite2 (fun _ => ?_) (fun _ => ⟨ns, rfl, hrow5, ho, hl4, f05, D5⟩)⟩
    refine ⟨_, rfl, row, _, rfl, .inl (SqL.of hrow5), _, _, rfl, rfl, _, rfl, ite2 (fun gt => ?_) (fun _ => ⟨ns, rfl, hrow5, ho, hl4, f05, D5⟩)⟩
    have gt' : 0 < ns.length := by
      have := of_decide_eq_true gt
      rw [List.length_map] at this
      omega
    refine ⟨_, rfl, d, c, 256, rfl, D5, by decide, by decide, fun x H6 x0 x1 f6 D6 => ?_⟩
    have hrow6 := f6 row _ (ne_draw D5 hrow5) hrow5
    refine ⟨_, rfl, _, rfl, _, rfl, row, _, rfl, .inl (SqL.of hrow6), d, c, _, rfl, D6, by rw [List.length_map]; omega, by rw [List.length_map]; omega, fun ix H7 ix0 ix1 f7 D7 => ?_⟩
    have hrow7 := f7 row _ (ne_draw D6 hrow6) hrow6
    rw [List.length_map] at ix1
    refine ⟨row, _, _, ix.toNat, rfl, rfl, hrow7, ?_, ?_⟩
    · unfold ixN
      rw [if_pos ix0, List.length_map, if_pos ix1]
    · refine ⟨ns.set ix.toNat x, rfl, by rw [upd_same, List.map_set], fun m hm => ?_, by rw [List.length_set]; exact hl4, ((f05.trans f6).trans f7).put rn, D7.put (ne_draw D7 hrow7) ?_⟩
      · rcases List.mem_or_eq_of_mem_set hm with q | rfl
        · exact ho m q
        · exact ⟨x0, x1⟩
      · intro e
        obtain ⟨o, e2⟩ := D.atc
        rw [← e, rn] at e2
        cases e2
  rintro σ3 H6 ⟨ns, rfl, hrow, ho, hl, f', D'⟩
  refine ⟨fun σ' H' => ∃ (row : Addr) (ns : List Int), σ' = [some (.ref d), some (.ref l), some (.ref row), v, some (.int ch)] ∧ H' row = some (.lst (ns.map V.int)) ∧ Oct ns ∧ ns.length ≤ 4000 ∧ Fr d H H' ∧ DrawAt H' d c, ?_, ?_⟩
  · refine ⟨_, rfl, rfl, _, rfl, ite2 (fun _ => ?_) (fun _ => ⟨row, ns, rfl, hrow, ho, hl, f', D'⟩)⟩
    refine ⟨_, rfl, row, _, rfl, .inl (SqL.of hrow), _, _, rfl, rfl, _, rfl, ite2 (fun gt => ?_) (fun _ => ⟨row, ns, rfl, hrow, ho, hl, f', D'⟩)⟩
    have gt' : 0 < ns.length := by
      have := of_decide_eq_true gt
      rw [List.length_map] at this
      omega
    refine ⟨_, rfl, _, rfl, _, rfl, row, _, rfl, .inl (SqL.of hrow), d, c, _, rfl, D', by rw [List.length_map]; omega, by rw [List.length_map]; omega, fun ix H7 ix0 ix1 f7 D7 => ?_⟩
    have hrow7 := f7 row _ (ne_draw D' hrow) hrow
    refine ⟨_, rfl, row, _, rfl, SqL.of hrow7, fun p hp => ?_⟩
    rw [show ix = ((ix.toNat : Nat) : Int) by omega, cut_take, ← List.map_take]
    exact ⟨p, ns.take ix.toNat, rfl, upd_same, ho.take _, by rw [List.length_take]; omega, (f'.trans f7).newer hp, D7.put (D7.nd hp) (D7.nc hp)⟩
  · rintro σ4 H7 ⟨row, ns, rfl, hrow, ho, hl, f', D'⟩
    exact ⟨_, rfl, k row ns H7 f' D' hrow ho hl⟩
end
end BR
/-! BrProg1: the program's code of octets, its fixed rows -/
namespace BR
open PySem PySem.Spec PyProof.Rows L2
/-- the written tables -/
structure Tb0 (K : PySem.W.Frag) (aM aC aF : Addr) : Prop where
  m : ∀ H, SqT K H aM (marks.map V.int)
  c : ∃ ts : List Addr, ts.length = 5 ∧ ∀ H, SqT K H aC (ts.map V.ref) ∧ ∀ (i : Nat) t, ts[i]? = some t → SqT K H t ((classesI.getD i []).map V.int)
  f : ∃ ts : List Addr, ts.length = 23 ∧ ∀ H, SqT K H aF (ts.map V.ref) ∧ ∀ (i : Nat) t, ts[i]? = some t → ∃ a b : Str, SqT K H t [.str a, .str b] ∧ a.cps.size ≤ 1000 ∧ b.cps.size ≤ 1000 ∧ fixedL[i]? = some (octs a, octs b)
def spNamed : Sp := fun vs H Q _ => ∃ o : Int, vs = [.int o] ∧ ∀ H', Same H H' → Q (.int (nBelow o)) H'
def spRank : Sp := fun vs H Q _ => ∃ r : Int, vs = [.int r] ∧ 0 ≤ r ∧ r < 257 ∧ ∀ H', Same H H' → Q (.int (rankOct r)) H'
def spOctetOf : Sp := fun vs H Q _ => ∃ (n : Int) (l : Nat), vs = [.int n, .int (l : Int)] ∧ ∀ H', Same H H' → Q (.int (look n l)) H'
/-- the dict of a HeadFault -/
abbrev hfd (w : Str) (at_ : Int) : HO := .xd [(("at" : Str), .int at_), (("word" : Str), .str w)]
/-- it raises HeadFault(w, at_); all but what stands at m is as it was -/
def Raisd (C : Addr) (w : Str) (at_ : Int) (R : Hp → Hp → Prop) (H : Hp) (E : XK) : Prop := ∀ d H', R H H' → H' d = some (hfd w at_) → E (.ref C) (some d) H'
def spDecoded (C : Addr) : Sp := fun vs H Q E => ∃ (v : V) (ns : List Int), vs = [v] ∧ TI H v ns ∧ ns.length ≤ 100000 ∧ (decode ns = none → Raisd C "code" 0 Same H E) ∧ (∀ r, decode ns = some r → ∀ v H', Same H H' → TI H' v r → Q v H')
def spFixedRow : Sp := fun vs H Q _ => ∃ n : Int, vs = [.int n] ∧ ((n < 1 ∨ 23 < n) → Q .non H) ∧ (1 ≤ n → n ≤ 23 → ∀ v H' p, Same H H' → fixedL[n.toNat - 1]? = some p → TP H' v p → Q v H')
section
variable {P : Program} {w : World} {K : PySem.W.Frag} {mg : Str → Option Value} {base : Heap} {mt un hC hI hL hD aM aC aF : Addr}
theorem sc_named_below : FnScope ["octet", "marks", "count", "mark"] ["octet"] (defScope sNamedBelow) := ⟨rfl, rfl, rfl, by decide +kernel, rfl, by decide +kernel, by decide +kernel⟩
theorem ok_named {f : Addr} {fd : FuncData} (F : FnP K "named_below" "named_below" sNamedBelow f fd) (T : Tx K mg mt un hC hI hL hD aM aC aF) (TB : Tb0 K aM aC aF) : FnOk P w K mg base CX0 1 f fd ["octet"] spNamed := by
  refine ok0 F sc_named_below (fun vs H Q E h => ?_) (fun cdv A outer s H vs Q E hr h => ?_)
  · obtain ⟨o, rfl, _⟩ := h
    rfl
  obtain ⟨o, rfl, k⟩ := h
  refine ⟨_, (pss_cons (ps_set (i := 1) sc_named_below.nd rfl (Or.inl rfl) (pe_callB call_len_seq (by rfl) T.len (by decide +kernel) (pa_cons (pe_lc (own := [(("mark" : Str), 3)]) (g := gName 3) (tt := _) rfl sc_named_below.nd (pi_tup (pe_gr T.MARKS)) (blkOk_by (own := [(("mark" : Str), 3)]) (N := ["octet", "marks", "count", "mark"]) (sc := defScope sNamedBelow) (by decide +kernel)) (fun _ _ _ _ _ => pg_name (i := 3) sc_named_below.nd rfl (Or.inl rfl)) (fun _ _ _ _ _ => (pts_one (pt_cmpR op_lt (pv 3) (pv 0) (nomark _)))) (fun _ _ _ _ _ => (pv 3))) pa_nil))) (pss_cons (ps_set (i := 2) sc_named_below.nd rfl (Or.inl rfl) (pe_op op_add (pe_op op_add (pe_callB (call_min2 rfl) (by rfl) T.min (by decide +kernel) (pa_cons (pe_callB (call_max2 rfl) (by rfl) T.max (by decide +kernel) (pa_cons (pe_op op_sub (pv 0) pe_int) (pa_cons pe_int pa_nil))) (pa_cons pe_int pa_nil))) (pe_callB (call_min2 rfl) (by rfl) T.min (by decide +kernel) (pa_cons (pe_callB (call_max2 rfl) (by rfl) T.max (by decide +kernel) (pa_cons (pe_op op_sub (pv 0) pe_int) (pa_cons pe_int pa_nil))) (pa_cons pe_int pa_nil)))) (pe_callB (call_min2 rfl) (by rfl) T.min (by decide +kernel) (pa_cons (pe_callB (call_max2 rfl) (by rfl) T.max (by decide +kernel) (pa_cons (pe_op op_sub (pv 0) pe_int) (pa_cons pe_int pa_nil))) (pa_cons pe_int pa_nil))))) (pss_one (ps_ret (pe_op op_add (pv 1) (pv 2)))))), ?_⟩
  refine ⟨aM, rfl, ⟨_, TB.m H⟩, fun D hDn => lc_tup (K := K) (a := aM) (xs := marks.map V.int) (fun i H' => H' D = some (.lst (((marks.take i).filter fun m => decide (m < o)).map V.int)) ∧ Same H H') ⟨upd_same, Same.nw hDn⟩ (fun _ H' _ _ => TB.m H') ?_ ?_⟩
  · rintro i y H' hi ⟨h1, s1⟩
    obtain ⟨m, hm, rfl⟩ := map_at hi
    refine ⟨rfl, _, rfl, _, rfl, _, _, rfl, rfl, _, rfl, ?_⟩
    rw [List.take_add_one, hm, List.filter_append]
    have lf : (((marks.take i).filter fun m => decide (m < o)).map V.int).length < sizeLine := by
      rw [List.length_map]
      exact size_lt (Nat.le_trans (List.length_filter_le _ _) (by rw [List.length_take]; exact Nat.le_trans (Nat.min_le_right _ _) (by decide)))
    refine ite2 (fun c => ⟨_, rfl, _, h1, lf, ?_, s1.putN hDn⟩) (fun c => ⟨?_, s1⟩)
    · rw [upd_same]
      simp [of_decide_eq_true c]
    · rw [h1]
      have c' : ¬ m < o := fun z => c (decide_eq_true z)
      simp [c']
  · rintro H' ⟨h1, s1⟩
    rw [List.length_map, List.take_length] at h1
    refine ⟨D, _, rfl, .inl (SqL.of h1), ?_⟩
    refine ⟨_, rfl, _, _, rfl, rfl, _, _, rfl, _, _, rfl, _, rfl, _, _, rfl, rfl, _, _, rfl, _, _, rfl, _, _, rfl, rfl, ?_⟩
    refine ⟨_, rfl, _, _, rfl, rfl, _, _, rfl, _, _, rfl, _, _, rfl, rfl, _, rfl, _, rfl, _, _, rfl, rfl, ?_⟩
    rw [List.length_map]
    exact k H' s1
theorem sc_octet_of_rank : FnScope ["rank", "octet"] ["rank"] (defScope sOctetOfRank) := ⟨rfl, rfl, rfl, by decide +kernel, rfl, by decide +kernel, by decide +kernel⟩
theorem ok_rank {f : Addr} {fd : FuncData} (F : FnP K "octet_of_rank" "octet_of_rank" sOctetOfRank f fd) (T : Tx K mg mt un hC hI hL hD aM aC aF) (TB : Tb0 K aM aC aF) (G_named_below : HasF P w K mg base CX0 1 "named_below" ["octet"] spNamed) : FnOk P w K mg base CX0 2 f fd ["rank"] spRank := by
  refine ok0 F sc_octet_of_rank (fun vs H Q E h => ?_) (fun cdv A outer s H vs Q E hr h => ?_)
  · obtain ⟨r, rfl, _⟩ := h
    rfl
  obtain ⟨r, rfl, r0, r1, k⟩ := h
  refine ⟨_, (pss_cons (ps_if (pt_cmpR op_lt (pv 0) (pe_gi T.LETTERS) (nomark _)) (pss_one (ps_ret (pe_op op_add pe_int (pv 0)))) pss_nil) (pss_cons (ps_if (pt_cmpR op_lt (pv 0) (pe_gi T.DIGITS) (nomark _)) (pss_one (ps_ret (pe_op op_sub (pe_op op_add pe_int (pv 0)) (pe_gi T.LETTERS)))) pss_nil) (pss_cons (ps_if (pt_cmpR op_lt (pv 0) (pe_gi T.PLAIN) (nomark _)) (pss_one (ps_ret (pe_ix ix_tup (pe_gr T.MARKS) (pe_op op_sub (pv 0) (pe_gi T.DIGITS)) (fun _ _ => rfl)))) pss_nil) (pss_cons (ps_if (pt_cmpR op_lt (pv 0) (pe_gi T.NAMED) (nomark _)) (pss_one (ps_ret (pe_op op_sub (pe_op op_add pe_int (pv 0)) (pe_gi T.PLAIN)))) pss_nil) (pss_cons (ps_set (i := 1) sc_octet_of_rank.nd rfl (Or.inl rfl) (pe_op op_sub (pv 0) (pe_gi T.NAMED))) (pss_cons (ps_while PassesOwn.never (pt_cmpR op_ne (pv 1) (pe_op op_add (pe_op op_sub (pv 0) (pe_gi T.NAMED)) (pe_f G_named_below (hr.mono (by decide)) pass0 (pa_cons (pe_op op_add (pv 1) pe_int) pa_nil))) (nomark _)) (pss_one (ps_set (i := 1) sc_octet_of_rank.nd rfl (Or.inl rfl) (pe_op op_add (pe_op op_sub (pv 0) (pe_gi T.NAMED)) (pe_f G_named_below (hr.mono (by decide)) pass0 (pa_cons (pe_op op_add (pv 1) pe_int) pa_nil)))))) (pss_one (ps_ret (pv 1))))))))), ?_⟩
  obtain ⟨n, rfl⟩ := Int.eq_ofNat_of_zero_le r0
  have n1 : n < 257 := by omega
  refine ⟨_, rfl, _, _, rfl, rfl, _, rfl, ite2 (fun c => ?_) (fun c => ?_)⟩
  · have c' := of_decide_eq_true c
    refine ⟨_, rfl, _, _, rfl, rfl, ?_⟩
    show Q (.int (97 + (n : Int))) H
    rw [← rank_letters n (by omega)]
    exact k H (Same.refl H)
  have c1 : ¬ ((n : Int) < 26) := fun z => c (decide_eq_true z)
  refine ⟨_, rfl, _, _, rfl, rfl, _, rfl, ite2 (fun c => ?_) (fun c => ?_)⟩
  · have c' := of_decide_eq_true c
    refine ⟨_, rfl, _, _, rfl, rfl, _, _, rfl, rfl, ?_⟩
    show Q (.int (48 + (n : Int) - 26)) H
    rw [← rank_digits n (by omega) (by omega)]
    exact k H (Same.refl H)
  have c2 : ¬ ((n : Int) < 36) := fun z => c (decide_eq_true z)
  refine ⟨_, rfl, _, _, rfl, rfl, _, rfl, ite2 (fun c => ?_) (fun c => ?_)⟩
  · have c' := of_decide_eq_true c
    have e := rank_marks n (by omega) (by omega)
    refine ⟨_, rfl, _, _, rfl, rfl, aM, _, _, _, rfl, rfl, TB.m H, atI_int (v := (n : Int) - 36) (at_map (n := rankOct (n : Int)) (by rw [show ((n : Int) - 36).toNat = (n : Int).toNat - 36 by omega]; exact e)) (by omega), ?_⟩
    exact k H (Same.refl H)
  have c3 : ¬ ((n : Int) < 45) := fun z => c (decide_eq_true z)
  refine ⟨_, rfl, _, _, rfl, rfl, _, rfl, ite2 (fun c => ?_) (fun c => ?_)⟩
  · have c' := of_decide_eq_true c
    refine ⟨_, rfl, _, _, rfl, rfl, _, _, rfl, rfl, ?_⟩
    show Q (.int (65 + (n : Int) - 45)) H
    rw [← rank_plain n (by omega) (by omega)]
    exact k H (Same.refl H)
  have c4 : ¬ ((n : Int) < 71) := fun z => c (decide_eq_true z)
  refine ⟨_, rfl, _, _, rfl, rfl, ?_⟩
  refine ⟨fun m σ' H' => ∃ o : Int, σ' = [some (.int (n : Int)), some (.int o)] ∧ okR (n : Int) m o = true ∧ Same H H', ⟨100, _, rfl, okR_all n n1 (by omega), Same.refl H⟩, ?_⟩
  rintro m σ' H' ⟨o, rfl, ok, s'⟩
  cases m with
  | zero => cases ok
  | succ m =>
    refine ⟨_, rfl, _, rfl, _, _, rfl, rfl, _, rfl, _, _, rfl, rfl, _, rfl, fun H2 s2 => ⟨_, _, rfl, rfl, rfl, _, rfl, ?_⟩⟩
    unfold okR at ok
    by_cases c : o = (n : Int) - 71 + nBelow (o + 1)
    · rw [if_pos c] at ok
      have e : (!decide (V.int o = V.int ((n : Int) - 71 + nBelow (o + 1)))) = false := by rw [← c]; simp
      show (if (!decide (V.int o = V.int ((n : Int) - 71 + nBelow (o + 1)))) = true then _ else _)
      rw [e]
      refine iteF ⟨_, rfl, ?_⟩
      rw [of_decide_eq_true ok]
      exact k H2 (s'.trans s2)
    · rw [if_neg c] at ok
      have e : (!decide (V.int o = V.int ((n : Int) - 71 + nBelow (o + 1)))) = true := by
        have : ¬ V.int o = V.int ((n : Int) - 71 + nBelow (o + 1)) := fun z => c (V.int.inj z)
        simp [this]
      show (if (!decide (V.int o = V.int ((n : Int) - 71 + nBelow (o + 1)))) = true then _ else _)
      rw [e]
      refine iteT ⟨fun σ'' H'' => ∃ o : Int, σ'' = [some (.int (n : Int)), some (.int o)] ∧ okR (n : Int) m o = true ∧ Same H H'', fun σ'' H'' q => ⟨m, Nat.lt_succ_self m, q⟩, ?_⟩
      refine ⟨_, rfl, _, _, rfl, rfl, _, rfl, _, _, rfl, rfl, _, rfl, fun H3 s3 => ⟨_, _, rfl, rfl, ?_⟩⟩
      exact ⟨_, rfl, ok, (s'.trans s2).trans s3⟩
theorem sc_octet_of : FnScope ["number", "length", "size", "first", "least", "count"] ["number", "length"] (defScope sOctetOf) := ⟨rfl, rfl, rfl, by decide +kernel, rfl, by decide +kernel, by decide +kernel⟩
theorem ok_octetOf {f : Addr} {fd : FuncData} (F : FnP K "octet_of" "octet_of" sOctetOf f fd) (T : Tx K mg mt un hC hI hL hD aM aC aF) (TB : Tb0 K aM aC aF) (G_octet_of_rank : HasF P w K mg base CX0 2 "octet_of_rank" ["rank"] spRank) : FnOk P w K mg base CX0 3 f fd ["number", "length"] spOctetOf := by
  refine ok0 F sc_octet_of (fun vs H Q E h => ?_) (fun cdv A outer s H vs Q E hr h => ?_)
  · obtain ⟨n, l, rfl, _⟩ := h
    rfl
  obtain ⟨n, l, rfl, k⟩ := h
  refine ⟨_, (pss_cons (ps_for PassesOwn.never rfl (pi_tup (pe_gr T.CLASSES)) (pg_tup (by rfl) (pgs_cons (pg_name (i := 2) sc_octet_of.nd rfl (Or.inl rfl)) (pgs_cons (pg_name (i := 3) sc_octet_of.nd rfl (Or.inl rfl)) (pgs_cons (pg_name (i := 4) sc_octet_of.nd rfl (Or.inl rfl)) (pgs_cons (pg_name (i := 5) sc_octet_of.nd rfl (Or.inl rfl)) pgs_nil))))) (pss_one (ps_if (PW.pt (pw_and (pt_cmpR op_eq (pv 2) (pv 1) (nomark _)) (pw_and1 (pt_chain op_le op_lt pe_int (pe_op op_sub (pv 0) (pv 3)) (pv 5))))) (pss_one (ps_ret (pe_f G_octet_of_rank (hr.mono (by decide)) pass0 (pa_cons (pe_op op_sub (pe_op op_add (pv 4) (pv 0)) (pv 3)) pa_nil)))) pss_nil))) (pss_one (ps_ret (pe_un un_neg pe_int)))), ?_⟩
  obtain ⟨ts, tl, tc⟩ := TB.c
  have lk : ∀ i, i ≤ 5 → lookIn (classes.drop i) n l = lookIn (classes.drop i) n l := fun _ _ => rfl
  refine ⟨aC, rfl, ⟨_, (tc H).1⟩, for_tup (K := K) (a := aC) (xs := ts.map V.ref) (fun i σ' H' => H = H' ∧ (∃ a b c e, σ' = [some (.int n), some (.int (l : Int)), a, b, c, e]) ∧ lookIn (classes.drop i) n l = look n l)
    ⟨rfl, ⟨_, _, _, _, rfl⟩, rfl⟩ (fun i σ' H' _ h => (tc H').1) ?_ ?_⟩
  · rintro i y σ' H' hi ⟨rfl, ⟨a, b, c, e, rfl⟩, hlk⟩
    rw [List.getElem?_map] at hi
    obtain ⟨t, ht, rfl⟩ : ∃ t, ts[i]? = some t ∧ y = .ref t := by
      cases q : ts[i]? with
      | none =>
        rw [q] at hi
        cases hi
      | some t =>
        rw [q] at hi
        cases hi
        exact ⟨t, rfl, rfl⟩
    have hi5 : i < 5 := by
      have := (List.getElem?_eq_some_iff.mp ht).1
      omega
    have q := (tc H).2 i t ht
    obtain ⟨cl, hcl⟩ : ∃ cl, classes[i]? = some cl := ⟨_, List.getElem?_eq_getElem (show i < classes.length from hi5)⟩
    have ed : classes.drop i = cl :: classes.drop (i + 1) := by
      obtain ⟨h1, h2⟩ := List.getElem?_eq_some_iff.mp hcl
      rw [List.drop_eq_getElem_cons h1]; rw [h2]
    have er : classesI.getD i [] = [(cl.1 : Int), cl.2.1, cl.2.2.1, cl.2.2.2] := by
      unfold classesI
      rw [List.getD_eq_getElem?_getD, List.getElem?_map, hcl]
      rfl
    rw [er] at q
    obtain ⟨b0, b1⟩ := class_bounds cl (List.mem_of_getElem? hcl)
    rw [ed] at hlk
    obtain ⟨sz, fi, le, co⟩ := cl
    refine ⟨t, _, rfl, q, rfl, _, _, rfl, _, _, rfl, _, _, rfl, _, _, rfl, rfl, ?_⟩
    refine ⟨_, rfl, _, rfl, rfl, _, rfl, ?_⟩
    have e1 : decide (V.int ((sz : Nat) : Int) = V.int ((l : Nat) : Int)) = decide (sz = l) := by
      rw [Bool.eq_iff_iff, decide_eq_true_iff, decide_eq_true_iff]
      exact ⟨fun z => by have := V.int.inj z; omega, fun z => by rw [z]⟩
    show (if decide (V.int ((sz : Nat) : Int) = V.int ((l : Nat) : Int)) = true then _ else _)
    rw [e1]
    unfold lookIn at hlk
    dsimp only at hlk
    by_cases c1 : sz = l
    · rw [decide_eq_true c1]
      refine iteT ⟨_, rfl, _, rfl, _, _, rfl, rfl, _, _, rfl, rfl, _, rfl, ?_⟩
      show (if decide ((0 : Int) ≤ n - fi) = true then _ else _)
      by_cases c2 : (0 : Int) ≤ n - fi
      · rw [decide_eq_true c2]
        refine iteT ⟨_, rfl, _, _, rfl, rfl, _, rfl, ?_⟩
        show (if decide (n - fi < co) = true then _ else _)
        by_cases c3 : n - fi < co
        · rw [decide_eq_true c3]
          rw [if_pos ⟨c1, c2, c3⟩] at hlk
          refine iteT ⟨_, rfl, _, rfl, _, _, rfl, rfl, _, rfl, _, _, rfl, rfl, _, rfl, ?_, ?_, fun H2 s2 => ?_⟩
          · show (0 : Int) ≤ le + n - fi
            dsimp only at b0 b1
            omega
          · show le + n - fi < 257
            dsimp only at b0 b1
            omega
          · show Q (.int (rankOct (le + n - fi))) H2
            rw [hlk]
            exact k H2 s2
        · rw [decide_eq_false c3]
          rw [if_neg (fun z => c3 z.2.2)] at hlk
          exact iteF ⟨rfl, ⟨_, _, _, _, rfl⟩, hlk⟩
      · rw [decide_eq_false c2]
        rw [if_neg (fun z => c2 z.2.1)] at hlk
        exact iteF ⟨_, rfl, iteF ⟨rfl, ⟨_, _, _, _, rfl⟩, hlk⟩⟩
    · rw [decide_eq_false c1]
      rw [if_neg (fun z => c1 z.1)] at hlk
      exact iteF ⟨rfl, ⟨_, _, _, _, rfl⟩, hlk⟩
  · rintro σ' H' ⟨rfl, ⟨a, b, c, e, rfl⟩, hlk⟩
    rw [List.length_map, tl] at hlk
    refine ⟨_, rfl, ?_⟩
    have : look n l = -1 := hlk.symm
    show Q (.int (-1)) H
    rw [← this]
    exact k H (Same.refl H)
theorem hf_room {k : Nat} {A : Around} (hr : Room k A) : A.depth + 1 < recursionLimit := by
  have := hr.dp
  omega
theorem sc_decoded : FnScope ["octets", "found", "number", "length", "octet", "place", "sign"] ["octets"] (defScope sDecoded) := ⟨rfl, rfl, rfl, by decide +kernel, rfl, by decide +kernel, by decide +kernel⟩
theorem ok_decoded {f : Addr} {fd : FuncData} (F : FnP K "decoded" "decoded" sDecoded f fd) (HP : HFP P) (T : Tx K mg mt un hC hI hL hD aM aC aF) (G_octet_of : HasF P w K mg base CX0 3 "octet_of" ["number", "length"] spOctetOf) : FnOk P w K mg base (L2N.CX P w) 4 f fd ["octets"] (spDecoded hC) := by
  refine F.ok sc_decoded (fun vs H Q E h => ?_) (fun cdv A outer s H vs Q E hr h => ?_)
  · obtain ⟨v, ns, rfl, _⟩ := h
    rfl
  have hd := hf_room hr
  obtain ⟨v, ns, rfl, ⟨t, rfl, ht⟩, hl, kE, kQ⟩ := h
  refine ⟨_, (pss_cons (ps_set (i := 1) sc_decoded.nd rfl (Or.inl rfl) (pe_lst pa_nil)) (pss_cons (ps_set (i := 2) sc_decoded.nd rfl (Or.inl rfl) pe_int) (pss_cons (ps_set (i := 3) sc_decoded.nd rfl (Or.inl rfl) pe_int) (pss_cons (ps_for (passes_of rfl) rfl (pi_tup (pv 0)) (pg_name (i := 4) sc_decoded.nd rfl (Or.inl rfl)) (pss_one (ps_for (passes_of rfl) rfl (pi_range3 rfl T.range (pa_cons pe_int (pa_cons (pe_un un_neg pe_int) (pa_cons (pe_un un_neg pe_int) pa_nil)))) (pg_name (i := 5) sc_decoded.nd rfl (Or.inl rfl)) (pss_cons (ps_set (i := 2) sc_decoded.nd rfl (Or.inl rfl) (pe_op op_add (pe_op op_mul (pv 2) pe_int) (pe_op op_andM (pe_op op_shr (pv 4) (pv 5)) pe_int))) (pss_cons (ps_aug (i := 3) sc_decoded.nd rfl (Or.inl rfl) pe_int ip_add) (pss_cons (ps_set (i := 6) sc_decoded.nd rfl (Or.inl rfl) (pe_f G_octet_of (hr.mono (by decide)) pass0 (pa_cons (pv 2) (pa_cons (pv 3) pa_nil)))) (pss_cons (ps_if (pt_cmpR op_eq (pv 6) (pe_gi T.END) (nomark _)) (pss_one (L2N.ps_raise rfl (L2N.takes_of rfl rfl rfl rfl) (pmkN_hf HP T.hf hd (pa_cons pe_str (pa_cons pe_int pa_nil))))) pss_nil) (pss_one (ps_if (pt_cmpR op_ge (pv 6) pe_int (nomark _)) (pss_cons (ps_expr (pe_bm PySem.F.plainAttrs_list PySem.F.slot_list_append PySem.F.type_list_append mt_append (pv 1) (pa_cons (pv 6) pa_nil))) (pss_cons (ps_set (i := 2) sc_decoded.nd rfl (Or.inl rfl) pe_int) (pss_one (ps_set (i := 3) sc_decoded.nd rfl (Or.inl rfl) pe_int)))) pss_nil))))))))) (pss_cons (ps_if (PW.pt (pw_or (pt_cmpR op_ge (pv 3) pe_int (nomark _)) (pw_or1 (pt_cmpR op_ne (pv 2) (pe_op op_sub (pe_op op_shl pe_int (pv 3)) pe_int) (nomark _))))) (pss_one (L2N.ps_raise rfl (L2N.takes_of rfl rfl rfl rfl) (pmkN_hf HP T.hf hd (pa_cons pe_str (pa_cons pe_int pa_nil))))) pss_nil) (pss_one (ps_ret (pe_callTy call_tuple_of (by rfl) T.tuple (by decide +kernel) (pa_cons (pv 1) pa_nil))))))))), ?_⟩
  refine ⟨Nat.zero_le _, fun L hL0 => ⟨_, rfl, t, rfl, ⟨_, SqT.of ((Same.nw hL0) _ _ ht)⟩, ?_⟩⟩
  refine for_tup (K := K) (a := t) (xs := ns.map V.int) (fun i σ' H' => ∃ (a b c : Option V) (ds : DS), σ' = [some (.ref t), some (.ref L), some (.int ds.num), some (.int (ds.len : Int)), a, b, c] ∧ H' L = some (.lst (ds.found.map V.int)) ∧ Same H H' ∧
      runO (ns.drop i) ds = runO ns ⟨[], 0, 0⟩ ∧ ds.len ≤ 8 * i ∧ ds.found.length ≤ 8 * i) ⟨none, none, none, ⟨[], 0, 0⟩, rfl, upd_same, Same.nw hL0, rfl, Nat.le_refl _, Nat.le_refl _⟩ (fun i σ' H' _ ⟨_, _, _, _, _, _, s', _⟩ => SqT.of (s' _ _ ht)) ?_ ?_
  · rintro i y σ' H' hi ⟨a, b, c, ds, rfl, hL', s', hrun, l1, l2⟩
    obtain ⟨o, ho, rfl⟩ := map_at hi
    have hil : i < ns.length := (List.getElem?_eq_some_iff.mp ho).1
    have ed : ns.drop i = o :: ns.drop (i + 1) := by
      obtain ⟨h1, h2⟩ := List.getElem?_eq_some_iff.mp ho
      rw [List.drop_eq_getElem_cons h1]; rw [h2]
    rw [ed] at hrun
    refine ⟨_, rfl, _, rfl, 7, -1, -1, 8, rfl, RgC.neg (by decide) (by decide) (by decide) (by decide), ?_⟩
    refine for_rangeC (lo := 7) (c := -1) (n := 8) (fun j σ' H' => ∃ (b c : Option V) (ds : DS), σ' = [some (.ref t), some (.ref L), some (.int ds.num), some (.int (ds.len : Int)), some (.int o), b, c] ∧ H' L = some (.lst (ds.found.map V.int)) ∧ Same H H' ∧
      (match octGo o (8 - j) j ds with
        | none => none
        | some u => runO (ns.drop (i + 1)) u) = runO ns ⟨[], 0, 0⟩ ∧ ds.len ≤ 8 * i + j ∧ ds.found.length ≤ 8 * i + j) ⟨b, c, ds, rfl, hL', s', hrun, l1, l2⟩ ?_ ?_
    · rintro j σ' H' hj ⟨b, c, ds, rfl, hL', s', hrun, l1, l2⟩
      have e8 : 8 - j = (8 - (j + 1)) + 1 := by omega
      rw [e8] at hrun
      unfold octGo at hrun
      refine ⟨_, rfl, _, _, rfl, rfl, .inr ⟨by decide, by decide⟩, _, rfl, _, rfl, _, _, rfl, rfl, by omega, _, 1, rfl, rfl, _, _, rfl, rfl, ?_⟩
      refine ⟨_, rfl, _, _, rfl, rfl, ?_⟩
      refine ⟨_, rfl, _, rfl, ds.num * 2 + bitOf o j, ds.len + 1, rfl, fun H2 s2 => ?_⟩
      have hL2 := s2 _ _ hL'
      have s02 := s'.trans s2
      unfold bitStep at hrun
      generalize look (ds.num * 2 + bitOf o j) (ds.len + 1) = g at *
      refine ⟨_, rfl, rfl, _, rfl, ?_⟩
      by_cases c1 : g = 256
      · rw [if_pos c1] at hrun
        have e1 : decide (V.int g = V.int 256) = true := decide_eq_true (by rw [c1])
        show (if decide (V.int g = V.int 256) = true then _ else _)
        rw [e1]
        refine iteT ⟨_, _, rfl, fun d hdn => ?_⟩
        have dn : decode ns = none := by
          unfold decode
          rw [← hrun]
        exact kE dn d _ (s02.nwr hdn) upd_same
      rw [if_neg c1] at hrun
      have e1 : decide (V.int g = V.int 256) = false := decide_eq_false (fun z => c1 (V.int.inj z))
      show (if decide (V.int g = V.int 256) = true then _ else _)
      rw [e1]
      refine iteF ⟨_, rfl, _, _, rfl, rfl, _, rfl, ?_⟩
      show (if decide ((0 : Int) ≤ g) = true then _ else _)
      by_cases c2 : (0 : Int) ≤ g
      · rw [if_pos c2] at hrun
        rw [decide_eq_true c2]
        refine iteT ⟨_, rfl, .inl ⟨rfl, _, SqL.of hL2⟩, _, rfl, L, _, _, rfl, rfl, hL2, by rw [List.length_map]; exact size_lt (by omega), ?_⟩
        exact ⟨_, _, ⟨ds.found ++ [g], 0, 0⟩, rfl, by rw [upd_same, List.map_append]; rfl, s02.putN hL0, hrun, Nat.zero_le _, by rw [List.length_append, List.length_singleton]; omega⟩
      · rw [if_neg c2] at hrun
        rw [decide_eq_false c2]
        exact iteF ⟨_, _, ⟨ds.found, ds.num * 2 + bitOf o j, ds.len + 1⟩, rfl, hL2, s02, hrun, by show ds.len + 1 ≤ _; omega, by show ds.found.length ≤ _; omega⟩
    · rintro σ' H' ⟨b, c, ds, rfl, hL', s', hrun, l1, l2⟩
      exact ⟨_, _, _, ds, rfl, hL', s', hrun, by omega, by omega⟩
  · rintro σ' H' ⟨a, b, c, ds, rfl, hL', s', hrun, l1, l2⟩
    rw [List.length_map] at hrun l1 l2
    rw [List.drop_length] at hrun
    have hdec : decode ns = endD ds := by
      unfold decode
      rw [← hrun]
      rfl
    refine ⟨_, rfl, _, _, rfl, rfl, _, rfl, ?_⟩
    show (if decide ((8 : Int) ≤ (ds.len : Int)) = true then _ else _)
    by_cases c1 : (8 : Int) ≤ (ds.len : Int)
    · rw [decide_eq_true c1]
      refine iteT (iteT ⟨_, _, rfl, fun d hdn => ?_⟩)
      have dn : decode ns = none := by
        rw [hdec]
        unfold endD
        rw [if_pos (.inl (by omega))]
      exact kE dn d _ (s'.nwr hdn) upd_same
    rw [decide_eq_false c1]
    refine iteF ⟨_, rfl, _, rfl, _, _, rfl, rfl, ⟨by omega, by omega, by decide⟩, _, _, rfl, rfl, rfl, _, rfl, ?_⟩
    have ep : (1 : Int) * 2 ^ ((ds.len : Nat) : Int).toNat - 1 = 2 ^ ds.len - 1 := by
      rw [Int.toNat_natCast, Int.one_mul]
    show (if (!decide (V.int ds.num = V.int (1 * 2 ^ ((ds.len : Nat) : Int).toNat - 1))) = true then _ else _)
    rw [ep]
    by_cases c2 : ds.num = 2 ^ ds.len - 1
    · have e2 : (!decide (V.int ds.num = V.int (2 ^ ds.len - 1))) = false := by rw [c2]; simp
      rw [e2]
      refine iteF ⟨_, rfl, L, _, rfl, .inl ⟨SqL.of hL', fun l hl0 => ?_⟩⟩
      refine kQ ds.found ?_ _ _ (s'.nwr hl0) ⟨l, rfl, upd_same⟩
      rw [hdec]
      unfold endD
      rw [if_neg (by rintro (z | z); omega; exact z c2)]
    · have e2 : (!decide (V.int ds.num = V.int (2 ^ ds.len - 1))) = true := by
        have : ¬ V.int ds.num = V.int (2 ^ ds.len - 1) := fun z => c2 (V.int.inj z)
        simp [this]
      rw [e2]
      refine iteT ⟨_, _, rfl, fun d hdn => ?_⟩
      have dn : decode ns = none := by
        rw [hdec]
        unfold endD
        rw [if_pos (.inr c2)]
      exact kE dn d _ (s'.nwr hdn) upd_same
theorem sc_to_octets : FnScope ["text", "sign"] ["text"] (defScope sToOctets) := ⟨rfl, rfl, rfl, by decide +kernel, rfl, by decide +kernel, by decide +kernel⟩
theorem ok_toOctets {f : Addr} {fd : FuncData} (F : FnP K "to_octets" "to_octets" sToOctets f fd) (T : Tx K mg mt un hC hI hL hD aM aC aF) : FnOk P w K mg base CX0 1 f fd ["text"] spOctets := by
  refine ok0 F sc_to_octets (fun vs H Q E h => ?_) (fun cdv A outer s H vs Q E hr h => ?_)
  · obtain ⟨z, rfl, _⟩ := h
    rfl
  obtain ⟨z, rfl, hz, k⟩ := h
  refine ⟨_, (pss_one (ps_ret (pe_callTy call_tuple_of (by rfl) T.tuple (by decide +kernel) (pa_cons (pe_lc (own := [(("sign" : Str), 1)]) (g := gName 1) (tt := tYes) rfl sc_to_octets.nd (pi_str (pv 0)) (blkOk_by (own := [(("sign" : Str), 1)]) (N := ["text", "sign"]) (sc := defScope sToOctets) (by decide +kernel)) (fun _ _ _ _ _ => pg_name (i := 1) sc_to_octets.nd rfl (Or.inl rfl)) (fun _ _ _ _ _ => pts_nil) (fun _ _ _ _ _ => (pe_callB call_ord (by rfl) T.ord (by decide +kernel) (pa_cons (pv 1) pa_nil)))) pa_nil)))), ?_⟩
  refine ⟨_, rfl, z, rfl, fun D hD => lc_it walk_str (fun i H' => H' D = some (.lst (((octs z).take i).map V.int)) ∧ Same H H') ⟨upd_same, Same.nw hD⟩ (fun _ _ _ _ => trivial) ?_ ?_⟩
  · rintro i x H1 H2 hi ⟨hD', s'⟩ ⟨rfl, c, hc, rfl⟩
    refine ⟨rfl, _, rfl, _, rfl, rfl, _, hD', ?_, ?_, s'.putN hD⟩
    · rw [List.length_map, List.length_take]
      exact size_lt (by omega)
    · rw [upd_same, List.take_add_one]
      have e : (octs z)[i]? = some ((c : Nat) : Int) := by
        unfold octs
        rw [List.getElem?_map, Array.getElem?_toList, hc]
        rfl
      rw [e]
      simp
  · rintro H' ⟨hD', s'⟩
    rw [List.take_of_length_le (by unfold octs; rw [List.length_map, Array.length_toList]; exact Nat.le_refl _)] at hD'
    exact ⟨D, _, rfl, .inl ⟨SqL.of hD', fun l hl => k _ _ (s'.nwr hl) ⟨l, rfl, upd_same⟩⟩⟩
theorem sc_fixed_row : FnScope ["number", "name", "value"] ["number"] (defScope sFixedRow) := ⟨rfl, rfl, rfl, by decide +kernel, rfl, by decide +kernel, by decide +kernel⟩
theorem ok_fixedRow {f : Addr} {fd : FuncData} (F : FnP K "fixed_row" "fixed_row" sFixedRow f fd) (T : Tx K mg mt un hC hI hL hD aM aC aF) (TB : Tb0 K aM aC aF) (G_to_octets : HasF P w K mg base CX0 1 "to_octets" ["text"] spOctets) : FnOk P w K mg base CX0 2 f fd ["number"] spFixedRow := by
  refine ok0 F sc_fixed_row (fun vs H Q E h => ?_) (fun cdv A outer s H vs Q E hr h => ?_)
  · obtain ⟨n, rfl, _⟩ := h
    rfl
  obtain ⟨n, rfl, k1, k2⟩ := h
  refine ⟨_, (pss_cons (ps_if (pt_not (pt_chain op_le op_le pe_int (pv 0) (pe_callB call_len_seq (by rfl) T.len (by decide +kernel) (pa_cons (pe_gr T.FIXED) pa_nil)))) (pss_one (ps_ret pe_non)) pss_nil) (pss_cons (ps_asg (pe_ix ix_tup (pe_gr T.FIXED) (pe_op op_sub (pv 0) pe_int) (fun _ _ => rfl)) (pg_tup (by rfl) (pgs_cons (pg_name (i := 1) sc_fixed_row.nd rfl (Or.inl rfl)) (pgs_cons (pg_name (i := 2) sc_fixed_row.nd rfl (Or.inl rfl)) pgs_nil)))) (pss_one (ps_ret (pe_tup (pa_cons (pe_f G_to_octets (hr.mono (by decide)) pass0 (pa_cons (pv 1) pa_nil)) (pa_cons (pe_f G_to_octets (hr.mono (by decide)) pass0 (pa_cons (pv 2) pa_nil)) pa_nil))))))), ?_⟩
  obtain ⟨ts, tl, tc⟩ := TB.f
  have lt : (ts.map V.ref).length = 23 := by rw [List.length_map, tl]
  refine ⟨_, rfl, _, _, rfl, rfl, _, rfl, ?_⟩
  show (if decide ((1 : Int) ≤ n) = true then _ else _)
  by_cases c1 : (1 : Int) ≤ n
  · rw [decide_eq_true c1]
    refine iteT ⟨aF, _, rfl, .inr (tc H).1, _, _, rfl, rfl, _, rfl, ?_⟩
    rw [lt]
    show (if (!decide (n ≤ 23)) = true then _ else _)
    by_cases c2 : n ≤ 23
    · rw [decide_eq_true c2]
      refine iteF ⟨_, rfl, _, _, rfl, rfl, ?_⟩
      have hlt : (n - 1).toNat < ts.length := by omega
      have ht : ts[(n - 1).toNat]? = some ts[(n - 1).toNat] := List.getElem?_eq_getElem hlt
      generalize ts[(n - 1).toNat] = tk at ht
      obtain ⟨a, b, q1, q2, q3, q4⟩ := (tc H).2 _ _ ht
      refine ⟨aF, _, _, _, rfl, rfl, (tc H).1, atI_int (v := n - 1) (x := V.ref tk) (by rw [List.getElem?_map, ht]; rfl) (by omega), ?_⟩
      refine ⟨tk, _, rfl, q1, rfl, _, _, rfl, _, _, rfl, rfl, ?_⟩
      refine ⟨_, rfl, a, rfl, q2, fun va Ha sa ta => ⟨_, rfl, b, rfl, q3, fun vb Hb sb tb => ⟨by show 2 ≤ sizeLine; decide, fun t ht2 => ?_⟩⟩⟩
      refine k2 c1 c2 _ _ (octs a, octs b) ((sa.trans sb).nwr ht2) (by rw [show n.toNat - 1 = (n - 1).toNat by omega]; exact q4) ⟨t, va, vb, rfl, upd_same, ta.kt (sb.kt.trans (Same.nw ht2).kt), tb.kt (Same.nw ht2).kt⟩
    · rw [decide_eq_false c2]
      exact iteT (k1 (.inr (by omega)))
  · rw [decide_eq_false c1]
    refine iteF ⟨_, rfl, ?_⟩
    exact iteT (k1 (.inl (by omega)))
theorem sc_row_size : FnScope ["name", "value"] ["name", "value"] (defScope sRowSize) := ⟨rfl, rfl, rfl, by decide +kernel, rfl, by decide +kernel, by decide +kernel⟩
def spSize : Sp := fun vs H Q _ => ∃ (a b : V) (p : Pr), vs = [a, b] ∧ TI H a p.1 ∧ TI H b p.2 ∧ Q (.int (size p)) H
theorem ok_size {f : Addr} {fd : FuncData} (F : FnP K "row_size" "row_size" sRowSize f fd) (T : Tx K mg mt un hC hI hL hD aM aC aF) : FnOk P w K mg base CX0 1 f fd ["name", "value"] spSize := by
  refine ok0 F sc_row_size (fun vs H Q E h => ?_) (fun cdv A outer s H vs Q E hr h => ?_)
  · obtain ⟨a, b, p, rfl, _⟩ := h
    rfl
  obtain ⟨a, b, p, rfl, ⟨ta, rfl, ha⟩, ⟨tb, rfl, hb⟩, k⟩ := h
  refine ⟨_, (pss_one (ps_ret (pe_op op_add (pe_op op_add (pe_callB call_len_seq (by rfl) T.len (by decide +kernel) (pa_cons (pv 0) pa_nil)) (pe_callB call_len_seq (by rfl) T.len (by decide +kernel) (pa_cons (pv 1) pa_nil))) (pe_gi T.EXTRA)))), ?_⟩
  refine ⟨_, rfl, ta, _, rfl, .inr (SqT.of ha), _, rfl, tb, _, rfl, .inr (SqT.of hb), _, _, rfl, rfl, _, _, rfl, rfl, ?_⟩
  show Q (.int (((p.1.map V.int).length : Int) + ((p.2.map V.int).length : Int) + 32)) H
  rw [List.length_map, List.length_map]
  exact k
end
end BR
/-! BrProg2: MovingTable -/
namespace BR
open PySem PySem.Spec PyProof.Rows L2
def mtF (b t : Int) (l : Addr) : List (Str × V) := [("bound", .int b), ("total", .int t), ("kept", .ref l)]
theorem mtF_bound (b t : Int) (l : Addr) : (mtF b t l).lookup ("bound" : Str) = some (.int b) := by rfl
theorem mtF_total (b t : Int) (l : Addr) : (mtF b t l).lookup ("total" : Str) = some (.int t) := by rfl
theorem mtF_kept (b t : Int) (l : Addr) : (mtF b t l).lookup ("kept" : Str) = some (.ref l) := by rfl
theorem mtF_no (b t : Int) (l : Addr) {m : Str} (h1 : (m == ("bound" : Str)) = false) (h2 : (m == ("total" : Str)) = false) (h3 : (m == ("kept" : Str)) = false) : (mtF b t l).lookup m = none := by
  unfold mtF
  simp only [List.lookup, h1, h2, h3]
theorem mtF_putB (b t c : Int) (l : Addr) : putF "bound" (.int c) (mtF b t l) = mtF c t l := by rfl
theorem mtF_putT (b t c : Int) (l : Addr) : putF "total" (.int c) (mtF b t l) = mtF b c l := by rfl
theorem mtF_putK (b t : Int) (l q : Addr) : putF "kept" (.ref q) (mtF b t l) = mtF b t q := by rfl
/-- something stands there -/
def Trk (H : Hp) (a : Addr) : Prop := ∃ o, H a = some o
theorem Trk.same {H H' : Hp} {a : Addr} (t : Trk H a) (s : Same H H') : Trk H' a := by
  obtain ⟨o, e⟩ := t
  exact ⟨o, s _ _ e⟩
theorem Trk.fr {m : Addr} {H H' : Hp} {a : Addr} {o : HO} (t : Trk H a) (f : Fr m H H') (h : H' m = some o) : Trk H' a := by
  by_cases c : a = m
  · rw [c]
    exact ⟨o, h⟩
  · obtain ⟨o, e⟩ := t
    exact ⟨o, f _ _ c e⟩
theorem Trk.ne {H : Hp} {a q : Addr} (t : Trk H a) (h : H q = none) : q ≠ a := by
  obtain ⟨o, e⟩ := t
  exact Ne.symm (ne_of_none e h)
/-- the moving table at m; its list does not stand at av -/
def MtAt (mt av : Addr) (H : Hp) (m : Addr) (kept : List Pr) (room : Int) : Prop := ∃ dx l vs, H m = some (.ins mt dx (mtF room (total kept) l)) ∧ H l = some (.lst vs) ∧ All2 (TP H) vs kept ∧ l ≠ av ∧ Trk H av
theorem MtAt.nt {mt av : Addr} {H : Hp} {m : Addr} {kept : List Pr} {room : Int} (h : MtAt mt av H m kept room) : NT H m := by
  obtain ⟨dx, l, vs, h, _⟩ := h
  exact nt_ins h
theorem MtAt.same {mt av : Addr} {H H' : Hp} {m : Addr} {kept : List Pr} {room : Int} (h : MtAt mt av H m kept room) (s : Same H H') : MtAt mt av H' m kept room := by
  obtain ⟨dx, l, vs, h1, h2, h3, h4, h5⟩ := h
  exact ⟨dx, l, vs, s _ _ h1, s _ _ h2, h3.imp fun _ _ x => x.kt s.kt, h4, h5.same s⟩
/-- another place to shun -/
theorem MtAt.own {mt av : Addr} {H : Hp} {m : Addr} {kept : List Pr} {room : Int} (h : MtAt mt av H m kept room) : MtAt mt m H m kept room := by
  obtain ⟨dx, l, vs, h1, h2, h3, h4, h5⟩ := h
  exact ⟨dx, l, vs, h1, h2, h3, ne_of h2 h1 (fun z => by cases z), _, h1⟩
theorem MtAt.shun {mt av q : Addr} {H : Hp} {m : Addr} {kept : List Pr} {room : Int} {o : HO} (h : MtAt mt av H m kept room) (n : H q = none) : MtAt mt q (upd H q o) m kept room := by
  obtain ⟨dx, l, vs, h1, h2, h3, h4, h5⟩ := h.same (Same.nw (o := o) n)
  obtain ⟨dx', l', vs', i1, i2, i3, i4, i5⟩ := h
  have e : upd H q o m = H m := upd_ne (ne_of_none i1 n)
  rw [e, i1] at h1
  have el : l' = l := by
    injection h1 with h1
    injection h1 with _ _ h1
    injection h1 with _ h1
    injection h1 with _ h1
    injection h1 with h1 _
    injection h1 with _ h1
    injection h1
  subst el
  exact ⟨dx', l', vs, by rw [e]; exact i1, h2, h3, ne_of_none i2 n, _, upd_same⟩
/-- a change at the shunned place, which is no tuple -/
theorem MtAt.at_av {mt av : Addr} {H : Hp} {m : Addr} {kept : List Pr} {room : Int} {o : HO} {xs : List V} (h : MtAt mt av H m kept room) (e : H av = some (.lst xs)) : MtAt mt av (upd H av o) m kept room := by
  obtain ⟨dx, l, vs, h1, h2, h3, h4, h5⟩ := h
  have n : m ≠ av := ne_of h1 e (fun z => by cases z)
  exact ⟨dx, l, vs, (upd_ne n).trans h1, (upd_ne h4).trans h2, h3.imp fun _ _ x => x.kt ((Fr.own).kt (nt_lst e)), h4, _, upd_same⟩
theorem total_take {kept : List Pr} {c : Nat} {p : Pr} (h : kept[c]? = some p) : total (kept.take (c + 1)) = total (kept.take c) + size p := by
  unfold total
  rw [List.take_add_one, h, List.map_append, List.sum_append]
  simp
def spMtI (mt : Addr) : Sp := fun vs H Q _ => ∃ (x dx : Addr) (r : Int), vs = [.ref x, .int r] ∧ H x = some (.ins mt dx []) ∧ ∀ H', Fr x H H' → MtAt mt x H' x [] r → Q .non H'
def spMtRoom (mt : Addr) : Sp := fun vs H Q _ => ∃ (m av : Addr) (kept : List Pr) (r : Int), vs = [.ref m] ∧ MtAt mt av H m kept r ∧ Q (.int r) H
def spMtRows (mt : Addr) : Sp := fun vs H Q _ => ∃ (m av : Addr) (kept : List Pr) (r : Int), vs = [.ref m] ∧ MtAt mt av H m kept r ∧ ∀ l ls H', Same H H' → H' l = some (.lst ls) → All2 (TP H') ls kept → Q (.ref l) H'
def spShrink (mt : Addr) : Sp := fun vs H Q _ => ∃ (m av : Addr) (most : Int) (kept : List Pr) (r : Int), vs = [.ref m, .int most] ∧ MtAt mt av H m kept r ∧ ∀ H', Fr m H H' → MtAt mt av H' m (fit kept most) r → Q .non H'
def spResize (mt : Addr) : Sp := fun vs H Q _ => ∃ (m av : Addr) (room : Int) (kept : List Pr) (r : Int), vs = [.ref m, .int room] ∧ MtAt mt av H m kept r ∧ ∀ H', Fr m H H' → MtAt mt av H' m (fit kept room) room → Q .non H'
def spMtAdd (mt : Addr) : Sp := fun vs H Q _ => ∃ (m av : Addr) (a b : V) (p : Pr) (kept : List Pr) (r : Int), vs = [.ref m, a, b] ∧ TI H a p.1 ∧ TI H b p.2 ∧ MtAt mt av H m kept r ∧ kept.length ≤ 900000 ∧ ∀ H', Fr m H H' → MtAt mt av H' m (add kept r p) r → Q .non H'
def spMtRow (mt : Addr) : Sp := fun vs H Q _ => ∃ (m av : Addr) (n : Int) (kept : List Pr) (r : Int), vs = [.ref m, .int n] ∧ MtAt mt av H m kept r ∧ 1 ≤ n ∧ (rowAt ⟨kept, r⟩ n = none → ∀ H', Same H H' → Q .non H') ∧ (∀ p, rowAt ⟨kept, r⟩ n = some p → ∀ v H', Same H H' → TP H' v p → Q v H')
section
variable {X : Cx} {CX : CXT} {k : Nat} {m : Str} {C : Addr} {ps : List Str} {sp : Sp} {E : XK} {e o : Expr} {es : List Expr} {t : TA} {to : TE} {pos apos : Pos}
theorem pe_me {pl : Sem Bool} (G : HasM X.prog X.w X.K X.mg X.base CX k C m ps sp) (c : Cls X.K C) (he : PE X o to) (hr : Room k X.A) (hx : Passes CX X E) (ha : PA X (e :: es) t)
    (hst : starEach (e :: es) X.env = (false, eval e X.env) :: starEach es X.env := by rfl) (hpl : (backTo pos (starEach es X.env)).any (·.1) = false := by rfl)
    (ht : eval (.Call (.Attribute o m apos) (e :: es) [] pos) X.env = (do
      let ov ← eval o X.env
      standAt apos.atName
      let (f, first) ← holding [ov] (getMethod ov m pl)
      callWith pos f first (backTo pos (starEach (e :: es) X.env)) (backToKw pos (keywordEach [] X.env))) := by rfl) :
    PE X (.Call (.Attribute o m apos) (e :: es) [] pos) (tMeth C m sp [] E to t) := by
  obtain ⟨f, fd, F, hm, b⟩ := G.ex
  exact pe_meth (pl := pl) he c hm F hr b .nil hx ha hst hpl ht
theorem pe_me0 {pl : Sem Bool} (G : HasM X.prog X.w X.K X.mg X.base CX k C m ps sp) (c : Cls X.K C) (he : PE X o to) (hr : Room k X.A) (hx : Passes CX X E)
    (ht : (eval (.Call (.Attribute o m apos) [] [] pos) X.env) = (do
      let ov ← eval o X.env
      standAt apos.atName
      let (f, first) ← holding [ov] (getMethod ov m pl)
      callWith pos f first (backTo pos (starEach [] X.env)) (backToKw pos (keywordEach [] X.env))) := by rfl) : PE X (.Call (.Attribute o m apos) [] [] pos) (tMeth C m sp [] E to tNil) := by
  obtain ⟨f, fd, F, hm, b⟩ := G.ex
  exact pe_meth0 (pl := pl) he c hm F hr b .nil hx ht
end
section
variable {P : Program} {w : World} {K : PySem.W.Frag} {mg : Str → Option Value} {base : Heap} {mt un hC hI hL hD aM aC aF : Addr}
theorem sc_MovingTable___init__ : FnScope ["self", "room"] ["self", "room"] (defScope sMtI) := ⟨rfl, rfl, rfl, by decide +kernel, rfl, by decide +kernel, by decide +kernel⟩
theorem ok_mtI {f : Addr} {fd : FuncData} (F : FnP K "__init__" "MovingTable.__init__" sMtI f fd) (T : Tx K mg mt un hC hI hL hD aM aC aF) : FnOk P w K mg base CX0 1 f fd ["self", "room"] (spMtI mt) := by
  refine ok0 F sc_MovingTable___init__ (fun vs H Q E h => ?_) (fun cdv A outer s H vs Q E hr h => ?_)
  · obtain ⟨x, dx, r, rfl, _⟩ := h
    rfl
  obtain ⟨x, dx, r, rfl, h0, k⟩ := h
  refine ⟨_, (pss_cons (ps_fld (pv 0) (pv 1) rfl) (pss_cons (ps_fld (pv 0) pe_int rfl) (pss_one (ps_fld (pv 0) (pe_lst pa_nil) rfl)))), ?_⟩
  refine ⟨_, rfl, _, rfl, x, mt, dx, _, rfl, h0, T.cMt, T.nBound, by show 0 < 1000; decide, ?_⟩
  refine ⟨_, rfl, x, mt, dx, _, rfl, upd_same, T.cMt, T.nTotal, by show 1 < 1000; decide, ?_⟩
  refine ⟨Nat.zero_le _, fun p hp => ?_⟩
  have nxp : x ≠ p := ne_of_none upd_same hp
  refine ⟨_, rfl, x, mt, dx, _, rfl, (upd_ne nxp).trans upd_same, T.cMt, T.nKept, by show 2 < 1000; decide, ?_⟩
  refine k _ ((((Fr.refl x H).owner).owner).newer hp).owner ⟨dx, p, [], upd_same, by rw [upd_ne (Ne.symm nxp), upd_same], .nil, Ne.symm nxp, _, upd_same⟩
theorem sc_MovingTable_room : FnScope ["self"] ["self"] (defScope sMtRoom) := ⟨rfl, rfl, rfl, by decide +kernel, rfl, by decide +kernel, by decide +kernel⟩
theorem ok_mtRoom {f : Addr} {fd : FuncData} (F : FnP K "room" "MovingTable.room" sMtRoom f fd) (T : Tx K mg mt un hC hI hL hD aM aC aF) : FnOk P w K mg base CX0 1 f fd ["self"] (spMtRoom mt) := by
  refine ok0 F sc_MovingTable_room (fun vs H Q E h => ?_) (fun cdv A outer s H vs Q E hr h => ?_)
  · obtain ⟨m, av, kept, r, rfl, _⟩ := h
    rfl
  obtain ⟨m, av, kept, r, rfl, ⟨dx, l, vs, h1, h2, h3, h4, h5⟩, k⟩ := h
  refine ⟨_, (pss_one (ps_ret (pe_fld (pv 0) rfl))), ?_⟩
  exact ⟨_, rfl, m, mt, dx, _, _, rfl, h1, T.cMt, T.nBound, mtF_bound _ _ _, k⟩
theorem sc_MovingTable_rows : FnScope ["self"] ["self"] (defScope sMtRows) := ⟨rfl, rfl, rfl, by decide +kernel, rfl, by decide +kernel, by decide +kernel⟩
theorem ok_mtRows {f : Addr} {fd : FuncData} (F : FnP K "rows" "MovingTable.rows" sMtRows f fd) (T : Tx K mg mt un hC hI hL hD aM aC aF) : FnOk P w K mg base CX0 1 f fd ["self"] (spMtRows mt) := by
  refine ok0 F sc_MovingTable_rows (fun vs H Q E h => ?_) (fun cdv A outer s H vs Q E hr h => ?_)
  · obtain ⟨m, av, kept, r, rfl, _⟩ := h
    rfl
  obtain ⟨m, av, kept, r, rfl, ⟨dx, l, vs, h1, h2, h3, h4, h5⟩, k⟩ := h
  refine ⟨_, (pss_one (ps_ret (pe_callTy call_list_of (by rfl) T.list (by decide +kernel) (pa_cons (pe_fld (pv 0) rfl) pa_nil)))), ?_⟩
  refine ⟨_, rfl, m, mt, dx, _, _, rfl, h1, T.cMt, T.nKept, mtF_kept _ _ _, l, _, rfl, .inl (SqL.of h2), fun p hp => ?_⟩
  exact k p vs _ (Same.nw hp) upd_same (h3.imp fun _ _ x => x.kt (Same.nw hp).kt)
theorem sc_MovingTable_shrink : FnScope ["self", "most", "name", "value"] ["self", "most"] (defScope sMtShrink) := ⟨rfl, rfl, rfl, by decide +kernel, rfl, by decide +kernel, by decide +kernel⟩
theorem ok_mtShrink {f : Addr} {fd : FuncData} (F : FnP K "shrink" "MovingTable.shrink" sMtShrink f fd) (T : Tx K mg mt un hC hI hL hD aM aC aF) (G_row_size : HasF P w K mg base CX0 1 "row_size" ["name", "value"] spSize) : FnOk P w K mg base CX0 2 f fd ["self", "most"] (spShrink mt) := by
  refine ok0 F sc_MovingTable_shrink (fun vs H Q E h => ?_) (fun cdv A outer s H vs Q E hr h => ?_)
  · obtain ⟨m, av, most, kept, r, rfl, _⟩ := h
    rfl
  obtain ⟨m, av, most, kept, r, rfl, M, k⟩ := h
  refine ⟨_, (pss_one (ps_while PassesOwn.never (PW.pt (pw_and (pt_cmpR (op_neD hr.units) (pe_fld (pv 0) rfl) (pe_lst pa_nil) (nomark _)) (pw_and1 (pt_cmpR op_gt (pe_fld (pv 0) rfl) (pv 1) (nomark _))))) (pss_cons (ps_asg (pe_ix ix_list (pe_fld (pv 0) rfl) (pe_un un_neg pe_int) (fun _ _ => rfl)) (pg_tup (by rfl) (pgs_cons (pg_name (i := 2) sc_MovingTable_shrink.nd rfl (Or.inl rfl)) (pgs_cons (pg_name (i := 3) sc_MovingTable_shrink.nd rfl (Or.inl rfl)) pgs_nil)))) (pss_cons (ps_fld (pv 0) (pe_slice sl_list (pe_fld (pv 0) rfl) po_none (po_some (pe_un un_neg pe_int))) rfl) (pss_one (ps_fldaug (pv 0) (pe_f G_row_size (hr.mono (by decide)) pass0 (pa_cons (pv 2) (pa_cons (pv 3) pa_nil))) in_sub)))))), ?_⟩
  have M0 : MtAt mt av H m (kept.take kept.length) r := by
    rw [List.take_length]
    exact M
  refine ⟨fun c σ' H' => ∃ (a b : Option V), σ' = [some (.ref m), some (.int most), a, b] ∧ c ≤ kept.length ∧ fitN kept most c = fitN kept most kept.length ∧ MtAt mt av H' m (kept.take c) r ∧ Fr m H H', ⟨kept.length, none, none, rfl, Nat.le_refl _, rfl, M0, Fr.refl m H⟩, ?_⟩
  rintro c σ' H' ⟨a, b, rfl, hc, hfit, ⟨dx, l, vs, h1, h2, h3, h4, h5⟩, f'⟩
  refine ⟨_, rfl, m, mt, dx, _, _, rfl, h1, T.cMt, T.nKept, mtF_kept _ _ _, Nat.zero_le _, fun p hp => ?_⟩
  have sp := Same.nw (o := .lst []) hp
  have h1' := sp _ _ h1
  have h2' := sp _ _ h2
  have h3' := h3.imp fun _ _ x => x.kt sp.kt
  have h5' := h5.same sp
  have stop : fitN kept most c = c → ∀ (a b : Option V) (H'' : Hp), MtAt mt av H'' m (kept.take c) r → Fr m H H'' → Q .non H'' := fun e a b H'' M' f'' => by
    refine k H'' f'' ?_
    unfold fit
    rw [← hfit, e]
    exact M'
  refine ⟨dR (kept.take c), .list [], .lst (SqL.of h2') (rows_dp h3'), .lst (SqL.of upd_same) .nil, shaped_rows _, by decide, _, rfl, ?_⟩
  cases c with
  | zero =>
    have e : (!PyData.eqv (dR (kept.take 0)) (.list [])) = false := by simp [dR, PyData.eqv, PyData.eqvAll]
    rw [e]
    refine iteF ?_
    exact stop rfl none none _ ⟨dx, l, vs, h1', h2', h3', h4, h5'⟩ (f'.trans (Fr.of sp))
  | succ c =>
    obtain ⟨pr, hpr⟩ : ∃ pr, kept[c]? = some pr := ⟨_, List.getElem?_eq_getElem (show c < kept.length by omega)⟩
    have et : kept.take (c + 1) = kept.take c ++ [pr] := by rw [List.take_add_one, hpr]; rfl
    have e : (!PyData.eqv (dR (kept.take (c + 1))) (.list [])) = true := by
      rw [et]
      unfold dR
      rw [List.map_append]
      cases (kept.take c).map dP <;> simp [PyData.eqv, PyData.eqvAll]
    rw [e]
    refine iteT ⟨_, rfl, m, mt, dx, _, _, rfl, h1', T.cMt, T.nTotal, mtF_total _ _ _, _, rfl, _, _, rfl, rfl, _, rfl, ?_⟩
    show (if decide (most < total (kept.take (c + 1))) = true then _ else _)
    by_cases c1 : most < total (kept.take (c + 1))
    · rw [decide_eq_true c1]
      refine iteT ⟨fun σ'' H'' => ∃ (a b : Option V), σ'' = [some (.ref m), some (.int most), a, b] ∧ c ≤ kept.length ∧ fitN kept most c = fitN kept most kept.length ∧ MtAt mt av H'' m (kept.take c) r ∧ Fr m H H'', fun σ'' H'' q => ⟨c, Nat.lt_succ_self c, q⟩, ?_⟩
      rw [et] at h3'
      obtain ⟨vs', v, rfl, ha, hv⟩ := h3'.last
      obtain ⟨t, na, nb, rfl, ht, ta, tb⟩ := hv
      refine ⟨_, rfl, m, mt, dx, _, _, rfl, h1', T.cMt, T.nKept, mtF_kept _ _ _, _, rfl, l, _, _, _, rfl, rfl, SqL.of h2', atI_last _ _, ?_⟩
      refine ⟨t, _, rfl, SqT.of ht, rfl, _, _, rfl, _, _, rfl, rfl, ?_⟩
      refine ⟨_, rfl, m, mt, dx, _, _, rfl, h1', T.cMt, T.nKept, mtF_kept _ _ _, _, rfl, _, rfl, l, _, rfl, SqL.of h2', fun q hq => ?_⟩
      rw [cut_last]
      have nmq : m ≠ q := ne_of_none h1' hq
      refine ⟨_, rfl, m, mt, dx, _, rfl, (upd_ne nmq).trans h1', T.cMt, T.nKept, by show 3 < 1000; decide, ?_⟩
      rw [mtF_putK]
      have kt : KT (upd H' p (.lst [])) (upd (upd (upd H' p (.lst [])) q (.lst vs')) m (.ins mt dx (mtF r (total (kept.take (c + 1))) q))) := (Same.nw hq).kt.trans ((Fr.own).kt (nt_ins ((upd_ne nmq).trans h1')))
      refine ⟨_, rfl, m, mt, dx, _, _, rfl, upd_same, T.cMt, T.nTotal, mtF_total _ _ _, _, rfl, _, rfl, na, nb, pr, rfl, ta.kt kt, tb.kt kt, _, _, rfl, rfl, dx, _, upd_same, by show 3 < 1000; decide, ?_⟩
      rw [mtF_putT]
      have ett : total (kept.take (c + 1)) - size pr = total (kept.take c) := by
        rw [total_take hpr]
        omega
      rw [ett]
      have kt2 := kt.trans ((Fr.own (m := m) (o := .ins mt dx (mtF r (total (kept.take c)) q))).kt (nt_ins upd_same))
      have fin : Fr m H (upd (upd (upd (upd H' p (.lst [])) q (.lst vs')) m (.ins mt dx (mtF r (total (kept.take (c + 1))) q))) m (.ins mt dx (mtF r (total (kept.take c)) q))) := (((f'.trans (Fr.of sp)).newer hq).owner).owner
      refine ⟨_, _, rfl, by omega, ?_, ⟨dx, q, vs', upd_same, ?_, ha.imp fun _ _ x => x.kt kt2, h5'.ne hq, h5'.fr ((Fr.new hq).owner).owner upd_same⟩, fin⟩
      · rw [← hfit]
        unfold fitN
        rw [if_pos c1]
        cases c <;> rfl
      · rw [upd_ne (Ne.symm nmq), upd_ne (Ne.symm nmq), upd_same]
    · rw [decide_eq_false c1]
      exact iteF (stop (fitN_stop c1) none none _ ⟨dx, l, vs, h1', h2', h3', h4, h5'⟩ (f'.trans (Fr.of sp)))
theorem sc_MovingTable_resize : FnScope ["self", "room"] ["self", "room"] (defScope sMtResize) := ⟨rfl, rfl, rfl, by decide +kernel, rfl, by decide +kernel, by decide +kernel⟩
theorem ok_mtResize {f : Addr} {fd : FuncData} (F : FnP K "resize" "MovingTable.resize" sMtResize f fd) (T : Tx K mg mt un hC hI hL hD aM aC aF) (M_shrink : HasM P w K mg base CX0 2 mt "shrink" ["self", "most"] (spShrink mt)) : FnOk P w K mg base CX0 3 f fd ["self", "room"] (spResize mt) := by
  refine ok0 F sc_MovingTable_resize (fun vs H Q E h => ?_) (fun cdv A outer s H vs Q E hr h => ?_)
  · obtain ⟨m, av, room, kept, r, rfl, _⟩ := h
    rfl
  obtain ⟨m, av, room, kept, r, rfl, ⟨dx, l, vs, h1, h2, h3, h4, h5⟩, k⟩ := h
  refine ⟨_, (pss_cons (ps_fld (pv 0) (pv 1) rfl) (pss_one (ps_expr (pe_me M_shrink T.cMt (pv 0) (hr.mono (by decide)) pass0 (pa_cons (pv 1) pa_nil))))), ?_⟩
  refine ⟨_, rfl, _, rfl, m, mt, dx, _, rfl, h1, T.cMt, T.nBound, by show 3 < 1000; decide, ?_⟩
  rw [mtF_putB]
  have nlm : l ≠ m := ne_of h2 h1 (fun z => by cases z)
  have kt := (Fr.own (m := m) (H := H) (o := .ins mt dx (mtF room (total kept) l))).kt (nt_ins h1)
  refine ⟨_, rfl, m, dx, _, rfl, upd_same, mtF_no _ _ _ (by decide +kernel) (by decide +kernel) (by decide +kernel), _, rfl, m, av, room, kept, room, rfl, ⟨dx, l, vs, upd_same, (upd_ne nlm).trans h2, h3.imp fun _ _ x => x.kt kt, h4, h5.fr Fr.own upd_same⟩, fun H' f' M' => ?_⟩
  exact k H' (Fr.own.trans f') M'
theorem sc_MovingTable_add : FnScope ["self", "name", "value", "needed"] ["self", "name", "value"] (defScope sMtAdd) := ⟨rfl, rfl, rfl, by decide +kernel, rfl, by decide +kernel, by decide +kernel⟩
theorem ok_mtAdd {f : Addr} {fd : FuncData} (F : FnP K "add" "MovingTable.add" sMtAdd f fd) (T : Tx K mg mt un hC hI hL hD aM aC aF) (G_row_size : HasF P w K mg base CX0 1 "row_size" ["name", "value"] spSize) (M_shrink : HasM P w K mg base CX0 2 mt "shrink" ["self", "most"] (spShrink mt)) : FnOk P w K mg base CX0 3 f fd ["self", "name", "value"] (spMtAdd mt) := by
  refine ok0 F sc_MovingTable_add (fun vs H Q E h => ?_) (fun cdv A outer s H vs Q E hr h => ?_)
  · obtain ⟨m, av, a, b, p, kept, r, rfl, _⟩ := h
    rfl
  obtain ⟨m, av, a, b, p, kept, r, rfl, ta, tb, M, lk, k⟩ := h
  refine ⟨_, (pss_cons (ps_set (i := 3) sc_MovingTable_add.nd rfl (Or.inl rfl) (pe_f G_row_size (hr.mono (by decide)) pass0 (pa_cons (pv 1) (pa_cons (pv 2) pa_nil)))) (pss_cons (ps_expr (pe_me M_shrink T.cMt (pv 0) (hr.mono (by decide)) pass0 (pa_cons (pe_op op_sub (pe_fld (pv 0) rfl) (pv 3)) pa_nil))) (pss_one (ps_if (pt_cmpR op_le (pv 3) (pe_fld (pv 0) rfl) (nomark _)) (pss_cons (ps_fld (pv 0) (pe_op op_cat (pe_lst (pa_cons (pe_tup (pa_cons (pv 1) (pa_cons (pv 2) pa_nil))) pa_nil)) (pe_fld (pv 0) rfl)) rfl) (pss_one (ps_fldaug (pv 0) (pv 3) in_add))) pss_nil)))), ?_⟩
  obtain ⟨dx, l, vs, h1, h2, h3, h4, h5⟩ := id M
  refine ⟨_, rfl, _, rfl, a, b, p, rfl, ta, tb, ?_⟩
  refine ⟨_, rfl, m, dx, _, rfl, h1, mtF_no _ _ _ (by decide +kernel) (by decide +kernel) (by decide +kernel), _, rfl, m, mt, dx, _, _, rfl, h1, T.cMt, T.nBound, mtF_bound _ _ _, _, rfl, _, _, rfl, rfl, m, av, r - size p, kept, r, rfl, M, fun H1 f1 M1 => ?_⟩
  obtain ⟨dx1, l1, vs1, h11, h12, h13, h14, h15⟩ := id M1
  have kt1 := f1.kt M.nt
  refine ⟨_, rfl, _, rfl, m, mt, dx1, _, _, rfl, h11, T.cMt, T.nBound, mtF_bound _ _ _, _, _, rfl, rfl, _, rfl, ?_⟩
  show (if decide (size p ≤ r) = true then _ else _)
  by_cases c : size p ≤ r
  · rw [decide_eq_true c]
    refine iteT ⟨_, rfl, _, rfl, by show 2 ≤ sizeLine; decide, fun t ht => ⟨by show 1 ≤ sizeLine; decide, fun q hq => ?_⟩⟩
    have s2 := (Same.nw (o := .tup [a, b]) ht).nwr (o := .lst [V.ref t]) hq
    have h11' := s2 _ _ h11
    have h12' := s2 _ _ h12
    have tt : upd (upd H1 t (.tup [a, b])) q (.lst [V.ref t]) t = some (.tup [a, b]) := (Same.nw hq) _ _ upd_same
    have ll : vs1.length ≤ 900000 := by
      rw [h13.length]
      unfold fit
      rw [List.length_take]
      omega
    refine ⟨_, rfl, m, mt, dx1, _, _, rfl, h11', T.cMt, T.nKept, mtF_kept _ _ _, rd_cat upd_same h12' (by show 1 + _ ≤ _; omega) fun q2 H3 s3 n3 h3' => ?_⟩
    have h11'' := s3 _ _ h11'
    refine ⟨_, rfl, m, mt, dx1, _, rfl, h11'', T.cMt, T.nKept, by show 3 < 1000; decide, ?_⟩
    rw [mtF_putK]
    refine ⟨_, rfl, m, mt, dx1, _, _, rfl, upd_same, T.cMt, T.nTotal, mtF_total _ _ _, _, rfl, _, _, rfl, rfl, dx1, _, upd_same, by show 3 < 1000; decide, ?_⟩
    rw [mtF_putT]
    have nq : q2 ≠ m := ne_of h3' h11'' (fun z => by cases z)
    have kt3 : KT H1 (upd (upd H3 m (.ins mt dx1 (mtF r (total (fit kept (r - size p))) q2))) m (.ins mt dx1 (mtF r (total (fit kept (r - size p)) + size p) q2))) :=
      ((s2.kt.trans s3.kt).trans ((Fr.own).kt (nt_ins h11''))).trans ((Fr.own).kt (nt_ins upd_same))
    have kt4 : KT (upd (upd H1 t (.tup [a, b])) q (.lst [V.ref t])) (upd (upd H3 m (.ins mt dx1 (mtF r (total (fit kept (r - size p))) q2))) m (.ins mt dx1 (mtF r (total (fit kept (r - size p)) + size p) q2))) :=
      (s3.kt.trans ((Fr.own).kt (nt_ins h11''))).trans ((Fr.own).kt (nt_ins upd_same))
    refine k _ ((((f1.trans (Fr.of s2)).trans (Fr.of s3)).owner).owner) ?_
    unfold add
    rw [if_pos c]
    have ett : total (p :: fit kept (r - size p)) = total (fit kept (r - size p)) + size p := by
      unfold total
      rw [List.map_cons, List.sum_cons, Int.add_comm]
    refine ⟨dx1, q2, V.ref t :: vs1, ?_, ?_, .cons ⟨t, a, b, rfl, kt4 _ _ tt, (ta.kt kt1).kt kt3, (tb.kt kt1).kt kt3⟩ (h13.imp fun _ _ x => x.kt kt3), (h15.same s2).ne n3, h15.fr (((Fr.of s2).trans (Fr.of s3)).owner).owner upd_same⟩
    · rw [ett, upd_same]
    · rw [upd_ne nq, upd_ne nq, h3']
      rfl
  · rw [decide_eq_false c]
    refine iteF (k H1 f1 ?_)
    unfold add
    rw [if_neg c, ← add_big c]
    exact M1
theorem sc_MovingTable_row : FnScope ["self", "number"] ["self", "number"] (defScope sMtRow) := ⟨rfl, rfl, rfl, by decide +kernel, rfl, by decide +kernel, by decide +kernel⟩
theorem ok_mtRow {f : Addr} {fd : FuncData} (F : FnP K "row" "MovingTable.row" sMtRow f fd) (T : Tx K mg mt un hC hI hL hD aM aC aF) (TB : Tb0 K aM aC aF) (G_fixed_row : HasF P w K mg base CX0 2 "fixed_row" ["number"] spFixedRow) : FnOk P w K mg base CX0 3 f fd ["self", "number"] (spMtRow mt) := by
  refine ok0 F sc_MovingTable_row (fun vs H Q E h => ?_) (fun cdv A outer s H vs Q E hr h => ?_)
  · obtain ⟨m, av, n, kept, r, rfl, _⟩ := h
    rfl
  obtain ⟨m, av, n, kept, r, rfl, ⟨dx, l, vs, h1, h2, h3, h4, h5⟩, n1, kN, kS⟩ := h
  refine ⟨_, (pss_cons (ps_if (pt_cmpR op_le (pv 1) (pe_callB call_len_seq (by rfl) T.len (by decide +kernel) (pa_cons (pe_gr T.FIXED) pa_nil)) (nomark _)) (pss_one (ps_ret (pe_f G_fixed_row (hr.mono (by decide)) pass0 (pa_cons (pv 1) pa_nil)))) pss_nil) (pss_cons (ps_if (pt_cmpR op_le (pe_op op_sub (pv 1) (pe_callB call_len_seq (by rfl) T.len (by decide +kernel) (pa_cons (pe_gr T.FIXED) pa_nil))) (pe_callB call_len_seq (by rfl) T.len (by decide +kernel) (pa_cons (pe_fld (pv 0) rfl) pa_nil)) (nomark _)) (pss_one (ps_ret (pe_ix ix_list (pe_fld (pv 0) rfl) (pe_op op_sub (pe_op op_sub (pv 1) (pe_callB call_len_seq (by rfl) T.len (by decide +kernel) (pa_cons (pe_gr T.FIXED) pa_nil))) pe_int) (fun _ _ => rfl)))) pss_nil) (pss_one (ps_ret pe_non)))), ?_⟩
  obtain ⟨ts, tl, tc⟩ := TB.f
  have lt : (ts.map V.ref).length = 23 := by rw [List.length_map, tl]
  have er : rowAt ⟨kept, r⟩ n = (fixedL ++ kept)[n.toNat - 1]? := by
    unfold rowAt
    rw [if_neg (by omega)]
  refine ⟨_, rfl, aF, _, rfl, .inr (tc H).1, _, _, rfl, rfl, _, rfl, ?_⟩
  rw [lt]
  show (if decide (n ≤ 23) = true then _ else _)
  by_cases c : n ≤ 23
  · rw [decide_eq_true c]
    refine iteT ⟨_, rfl, n, rfl, fun z => by omega, fun _ _ v H' p s' e t' => ?_⟩
    refine kS p ?_ v H' s' t'
    rw [er, List.getElem?_append_left (by rw [fixed_len]; omega)]
    exact e
  rw [decide_eq_false c]
  refine iteF ⟨_, rfl, aF, _, rfl, .inr (tc H).1, _, _, rfl, rfl, _, rfl, m, mt, dx, _, _, rfl, h1, T.cMt, T.nKept, mtF_kept _ _ _, l, _, rfl, .inl (SqL.of h2), _, _, rfl, rfl, _, rfl, ?_⟩
  rw [lt, h3.length]
  have e2 : (fixedL ++ kept)[n.toNat - 1]? = kept[(n - 23 - 1).toNat]? := by
    rw [List.getElem?_append_right (by rw [fixed_len]; omega), fixed_len]
    congr 1
    omega
  show (if decide (n - 23 ≤ (kept.length : Int)) = true then _ else _)
  by_cases c2 : n - 23 ≤ (kept.length : Int)
  · rw [decide_eq_true c2]
    have hlt : (n - 23 - 1).toNat < kept.length := by omega
    obtain ⟨v, hv, hp⟩ := h3.get (List.getElem?_eq_getElem hlt)
    refine iteT ⟨_, rfl, m, mt, dx, _, _, rfl, h1, T.cMt, T.nKept, mtF_kept _ _ _, _, rfl, aF, _, rfl, .inr (tc H).1, _, _, rfl, rfl, _, _, rfl, rfl, l, _, _, v, rfl, rfl, SqL.of h2, ?_, ?_⟩
    · rw [lt]
      exact atI_int (v := n - 23 - 1) hv (by omega)
    · exact kS _ (by rw [er, e2]; exact List.getElem?_eq_getElem hlt) v H (Same.refl H) hp
  · rw [decide_eq_false c2]
    refine iteF (kN ?_ H (Same.refl H))
    rw [er, e2]
    exact List.getElem?_eq_none (by omega)
end
end BR
/-! BrProg3: read_int, read_string, Unpacker -/
namespace BR
open PySem PySem.Spec PyProof.Rows L2
def wS : Wd → Str
  | .short => "short"
  | .number => "number"
  | .row => "row"
  | .room => "room"
  | .code => "code"
/-- the outcome of a reader: a fault raised, or a value of which ok tells -/
def Outc {α : Type} (C : Addr) (R : Hp → Hp → Prop) (H : Hp) (E : XK) (x : Except Ft α) (ok : α → Prop) : Prop := match x with
  | .error f => Raisd C (wS f.1) (f.2 : Int) R H E
  | .ok a => ok a
def spReadInt (C : Addr) : Sp := fun vs H Q E => ∃ (v : V) (ns : List Int) (p n : Nat), vs = [v, .int (p : Int), .int (n : Int)] ∧ TI H v ns ∧ ns.length ≤ 100000 ∧ n ≤ 8 ∧ Outc C Same H E (rdInt ns p n) fun z => ∀ t H', Same H H' → H' t = some (.tup [.int z.1, .int (z.2 : Int)]) → Q (.ref t) H'
section
variable {X : Cx} {CX : CXT} {k : Nat} {x : Str} {ps : List Str} {sp : Sp} {E : L2.St → XK} {e : Expr} {es : List Expr} {t : TA} {p pos : Pos}
theorem pe_fS (G : HasF X.prog X.w X.K X.mg X.base CX k x ps sp) (hr : Room k X.A) (hx : ∀ σ, PassesAt CX X σ (E σ)) (ha : PA X (e :: es) t) (hg : Gl X x := by rfl)
    (hdb : (x == ("__debug__" : Str)) = false := by decide) (he : starEach (e :: es) X.env = (false, eval e X.env) :: starEach es X.env := by rfl) (hpl : (backTo pos (starEach es X.env)).any (·.1) = false := by rfl) : PE X (.Call (.Name x p) (e :: es) [] pos) (tCallS sp E t) := by
  obtain ⟨f, fd, F, g, kp, b⟩ := G.ex
  exact pe_callS F hr hg g kp b hx ha hdb he hpl
end
section
variable {P : Program} {w : World} {K : PySem.W.Frag} {mg : Str → Option Value} {base : Heap} {mt un hC hI hL hD aM aC aF : Addr}
theorem sc_read_int : FnScope ["octets", "at", "n", "full", "value", "k", "place"] ["octets", "at", "n"] (defScope sReadInt) := ⟨rfl, rfl, rfl, by decide +kernel, rfl, by decide +kernel, by decide +kernel⟩
theorem ok_readInt {f : Addr} {fd : FuncData} (F : FnP K "read_int" "read_int" sReadInt f fd) (HP : HFP P) (T : Tx K mg mt un hC hI hL hD aM aC aF) : FnOk P w K mg base (L2.CX P w) 1 f fd ["octets", "at", "n"] (spReadInt hC) := by
  refine F.ok sc_read_int (fun vs H Q E h => ?_) (fun cdv A outer s H vs Q E hr h => ?_)
  · obtain ⟨v, ns, p, n, rfl, _⟩ := h
    rfl
  have hd := hf_room hr
  obtain ⟨v, ns, p, n, rfl, ⟨t, rfl, ht⟩, hl, hn8, ho⟩ := h
  refine ⟨_, (pss_cons (ps_if (pt_cmpR op_ge (pv 1) (pe_callB call_len_seq (by rfl) T.len (by decide +kernel) (pa_cons (pv 0) pa_nil)) (nomark _)) (pss_one (L2.ps_raise rfl (L2.takes_of rfl rfl rfl rfl) (pmk_ofN (pmkN_hf HP T.hf hd (pa_cons pe_str (pa_cons (pe_callB call_len_seq (by rfl) T.len (by decide +kernel) (pa_cons (pv 0) pa_nil)) pa_nil)))))) pss_nil) (pss_cons (ps_set (i := 3) sc_read_int.nd rfl (Or.inl rfl) (pe_op op_sub (pe_op op_shl pe_int (pv 2)) pe_int)) (pss_cons (ps_set (i := 4) sc_read_int.nd rfl (Or.inl rfl) (pe_op op_andM (pe_ix ix_tup (pv 0) (pv 1) (fun _ _ => rfl)) (pv 3))) (pss_cons (ps_if (pt_cmpR op_lt (pv 4) (pv 3) (nomark _)) (pss_one (ps_ret (pe_tup (pa_cons (pv 4) (pa_cons (pe_op op_add (pv 1) pe_int) pa_nil))))) pss_nil) (pss_cons (ps_for (passes_of rfl) rfl (pi_range1 rfl T.range (pa_cons (pe_gi T.MORE) pa_nil)) (pg_name (i := 5) sc_read_int.nd rfl (Or.inl rfl)) (pss_cons (ps_set (i := 6) sc_read_int.nd rfl (Or.inl rfl) (pe_op op_add (pe_op op_add (pv 1) pe_int) (pv 5))) (pss_cons (ps_if (pt_cmpR op_ge (pv 6) (pe_callB call_len_seq (by rfl) T.len (by decide +kernel) (pa_cons (pv 0) pa_nil)) (nomark _)) (pss_one (L2.ps_raise rfl (L2.takes_of rfl rfl rfl rfl) (pmk_ofN (pmkN_hf HP T.hf hd (pa_cons pe_str (pa_cons (pe_callB call_len_seq (by rfl) T.len (by decide +kernel) (pa_cons (pv 0) pa_nil)) pa_nil)))))) pss_nil) (pss_cons (ps_aug (i := 4) sc_read_int.nd rfl (Or.inl rfl) (pe_op op_shl (pe_op op_andM (pe_ix ix_tup (pv 0) (pv 6) (fun _ _ => rfl)) pe_int) (pe_op op_mul pe_int (pv 5))) ip_add) (pss_cons (ps_if (pt_cmpR op_gt (pv 4) (pe_gi T.GREATEST) (nomark _)) (pss_one (L2.ps_raise rfl (L2.takes_of rfl rfl rfl rfl) (pmk_ofN (pmkN_hf HP T.hf hd (pa_cons pe_str (pa_cons (pv 1) pa_nil)))))) pss_nil) (pss_one (ps_if (pt_cmpR op_lt (pe_ix ix_tup (pv 0) (pv 6) (fun _ _ => rfl)) pe_int (nomark _)) (pss_one (ps_ret (pe_tup (pa_cons (pv 4) (pa_cons (pe_op op_add (pv 6) pe_int) pa_nil))))) pss_nil))))))) (pss_one (L2.ps_raise rfl (L2.takes_of rfl rfl rfl rfl) (pmk_ofN (pmkN_hf HP T.hf hd (pa_cons pe_str (pa_cons (pv 1) pa_nil))))))))))), ?_⟩
  refine ⟨_, rfl, _, rfl, t, _, rfl, .inr (SqT.of ht), _, _, rfl, rfl, _, rfl, ?_⟩
  rw [List.length_map]
  show (if decide ((ns.length : Int) ≤ (p : Int)) = true then _ else _)
  unfold rdInt at ho
  by_cases c : (ns.length : Int) ≤ (p : Int)
  · rw [decide_eq_true c]
    rw [List.getElem?_eq_none (by omega)] at ho
    refine iteT ⟨_, rfl, t, _, rfl, .inr (SqT.of ht), _, _, rfl, fun d hdn => ?_⟩
    rw [List.length_map]
    exact ho d _ (Same.nw hdn) upd_same
  rw [decide_eq_false c]
  have hlt : p < ns.length := by omega
  obtain ⟨o, ep⟩ : ∃ o, ns[p]? = some o := ⟨_, List.getElem?_eq_getElem hlt⟩
  rw [ep] at ho
  dsimp only at ho
  refine iteF ⟨_, rfl, _, _, rfl, rfl, ⟨by omega, by omega, by decide⟩, _, _, rfl, rfl, ?_⟩
  have ef : (1 : Int) * 2 ^ ((n : Nat) : Int).toNat - 1 = 2 ^ n - 1 := by rw [Int.toNat_natCast, Int.one_mul]
  refine ⟨_, rfl, _, rfl, t, _, _, _, rfl, rfl, SqT.of ht, atI_nat (at_map ep), _, rfl, o, n, rfl, congrArg V.int ef, ?_⟩
  refine ⟨_, rfl, _, rfl, _, _, rfl, rfl, _, rfl, ?_⟩
  show (if decide (o % 2 ^ n < 1 * 2 ^ ((n : Nat) : Int).toNat - 1) = true then _ else _)
  rw [ef]
  by_cases c2 : o % 2 ^ n < 2 ^ n - 1
  · rw [decide_eq_true c2]
    rw [if_pos c2] at ho
    refine iteT ⟨_, rfl, _, rfl, _, _, rfl, rfl, by show 2 ≤ sizeLine; decide, fun q hq => ?_⟩
    exact ho q _ (Same.nw hq) upd_same
  rw [decide_eq_false c2]
  rw [if_neg c2] at ho
  refine iteF ⟨_, rfl, by decide, by decide, for_range (lo := 0) (n := 5) (fun i σ' H' => H = H' ∧ ∃ (u : Int) (a b : Option V), σ' = [some (.ref t), some (.int (p : Int)), some (.int (n : Int)), some (.int (1 * 2 ^ ((n : Nat) : Int).toNat - 1)), some (.int u), a, b] ∧ rdGo ns p 5 0 (o % 2 ^ n) = rdGo ns p (5 - i) i u)
    ⟨rfl, o % 2 ^ n, none, none, rfl, rfl⟩ ?_ ?_⟩
  · rintro i σ' H' hi ⟨rfl, u, a, b, rfl, hg⟩
    rw [show 5 - i = (5 - (i + 1)) + 1 by omega] at hg
    conv at hg =>
      rhs
      unfold rdGo
    refine ⟨_, rfl, _, _, rfl, rfl, _, rfl, _, _, rfl, rfl, ?_⟩
    refine ⟨_, rfl, _, rfl, t, _, rfl, .inr (SqT.of ht), _, _, rfl, rfl, _, rfl, ?_⟩
    rw [List.length_map]
    show (if decide ((ns.length : Int) ≤ (p : Int) + 1 + (0 + (i : Int))) = true then _ else _)
    by_cases c3 : (ns.length : Int) ≤ (p : Int) + 1 + (0 + (i : Int))
    · rw [decide_eq_true c3]
      rw [List.getElem?_eq_none (show ns.length ≤ p + 1 + i by omega)] at hg
      rw [hg] at ho
      refine iteT ⟨_, rfl, t, _, rfl, .inr (SqT.of ht), _, _, rfl, fun d hdn => ?_⟩
      rw [List.length_map]
      exact ho d _ (Same.nw hdn) upd_same
    rw [decide_eq_false c3]
    have hlt2 : p + 1 + i < ns.length := by omega
    obtain ⟨o2, ep2⟩ : ∃ o2, ns[p + 1 + i]? = some o2 := ⟨_, List.getElem?_eq_getElem hlt2⟩
    rw [ep2] at hg
    dsimp only at hg
    have eat : atI (ns.map V.int) ((p : Int) + 1 + (0 + (i : Int))) = some (.int o2) := atI_int (by rw [show ((p : Int) + 1 + (0 + (i : Int))).toNat = p + 1 + i by omega]; exact at_map ep2) (by omega)
    have m0 := Int.emod_nonneg o2 (show (2 : Int) ^ 7 ≠ 0 by decide)
    have m1 : o2 % 2 ^ 7 < 128 := Int.emod_lt_of_pos o2 (show (0 : Int) < 2 ^ 7 by decide)
    refine iteF ⟨_, rfl, _, rfl, _, rfl, t, _, _, _, rfl, rfl, SqT.of ht, eat, o2, 7, rfl, rfl, _, rfl, _, _, rfl, rfl, .inl ⟨by decide, by decide⟩, _, _, rfl, rfl, ⟨by omega, by omega, by omega⟩, _, _, rfl, rfl, ?_⟩
    refine ⟨_, rfl, _, _, rfl, rfl, _, rfl, ?_⟩
    show (if decide ((2147483647 : Int) < u + dg o2 i) = true then _ else _)
    by_cases c4 : (2147483647 : Int) < u + dg o2 i
    · rw [decide_eq_true c4]
      rw [if_pos c4] at hg
      rw [hg] at ho
      exact iteT ⟨_, rfl, _, _, rfl, fun d hdn => ho d _ (Same.nw hdn) upd_same⟩
    rw [decide_eq_false c4]
    rw [if_neg c4] at hg
    refine iteF ⟨_, rfl, _, rfl, t, _, _, _, rfl, rfl, SqT.of ht, eat, _, _, rfl, rfl, _, rfl, ?_⟩
    show (if decide (o2 < 128) = true then _ else _)
    by_cases c5 : o2 < 128
    · rw [decide_eq_true c5]
      rw [if_pos c5] at hg
      rw [hg] at ho
      refine iteT ⟨_, rfl, _, rfl, _, _, rfl, rfl, by show 2 ≤ sizeLine; decide, fun q hq => ?_⟩
      refine ho q _ (Same.nw hq) ?_
      rw [upd_same]
      show some (HO.tup [V.int (u + dg o2 i), V.int ((p : Int) + 1 + (0 + (i : Int)) + 1)]) = some (HO.tup [V.int (u + dg o2 i), V.int ((p + 2 + i : Nat) : Int)])
      rw [show ((p + 2 + i : Nat) : Int) = (p : Int) + 1 + (0 + (i : Int)) + 1 by omega]
    · rw [decide_eq_false c5]
      rw [if_neg c5] at hg
      exact iteF ⟨rfl, u + dg o2 i, _, _, rfl, hg⟩
  · rintro σ' H' ⟨rfl, u, a, b, rfl, hg⟩
    rw [hg] at ho
    exact ⟨_, rfl, _, _, rfl, fun d hdn => ho d _ (Same.nw hdn) upd_same⟩
def spReadStr (C : Addr) : Sp := fun vs H Q E => ∃ (v : V) (ns : List Int) (p : Nat), vs = [v, .int (p : Int)] ∧ TI H v ns ∧ ns.length ≤ 100000 ∧ Outc C Same H E (rdStr ns p) fun z => ∀ t a H', Same H H' → H' t = some (.tup [a, .int (z.2 : Int)]) → TI H' a z.1 → Q (.ref t) H'
theorem sc_read_string : FnScope ["octets", "at", "length", "start", "row", "fault"] ["octets", "at"] (defScope sReadString) := ⟨rfl, rfl, rfl, by decide +kernel, rfl, by decide +kernel, by decide +kernel⟩
theorem ok_readString {f : Addr} {fd : FuncData} (F : FnP K "read_string" "read_string" sReadString f fd) (HP : HFP P) (T : Tx K mg mt un hC hI hL hD aM aC aF) (G_read_int : HasF P w K mg base (L2.CX P w) 1 "read_int" ["octets", "at", "n"] (spReadInt hC))
    (G_decoded : HasF P w K mg base (L2N.CX P w) 4 "decoded" ["octets"] (spDecoded hC)) : FnOk P w K mg base (L2.CX P w) 5 f fd ["octets", "at"] (spReadStr hC) := by
  refine F.ok sc_read_string (fun vs H Q E h => ?_) (fun cdv A outer s H vs Q E hr h => ?_)
  · obtain ⟨v, ns, p, rfl, _⟩ := h
    rfl
  have hd := hf_room hr
  obtain ⟨v, ns, p, rfl, ⟨t, rfl, ht⟩, hl, ho⟩ := h
  refine ⟨_, (pss_cons (ps_asg (pe_f G_read_int (hr.mono (by decide)) (L2.passes_call (L2.takes_of rfl rfl rfl rfl) (fun _ _ _ _ h => h)) (pa_cons (pv 0) (pa_cons (pv 1) (pa_cons pe_int pa_nil)))) (pg_tup (by rfl) (pgs_cons (pg_name (i := 2) sc_read_string.nd rfl (Or.inl rfl)) (pgs_cons (pg_name (i := 3) sc_read_string.nd rfl (Or.inl rfl)) pgs_nil)))) (pss_cons (ps_if (pt_cmpR op_gt (pe_op op_add (pv 3) (pv 2)) (pe_callB call_len_seq (by rfl) T.len (by decide +kernel) (pa_cons (pv 0) pa_nil)) (nomark _)) (pss_one (L2.ps_raise rfl (L2.takes_of rfl rfl rfl rfl) (pmk_ofN (pmkN_hf HP T.hf hd (pa_cons pe_str (pa_cons (pe_callB call_len_seq (by rfl) T.len (by decide +kernel) (pa_cons (pv 0) pa_nil)) pa_nil)))))) pss_nil) (C8.pss_cut (ps_set (i := 4) sc_read_string.nd rfl (Or.inl rfl) (pe_callTy call_tuple_of (by rfl) T.tuple (by decide +kernel) (pa_cons (pe_slice sl_tupA (pv 0) (po_some (pv 3)) (po_some (pe_op op_add (pv 3) (pv 2)))) pa_nil))) (C8.pss_cut (ps_if (pt_cmpR op_ge (pe_ix ix_tup (pv 0) (pv 1) (fun _ _ => rfl)) pe_int (nomark _)) (pss_one (ps_try_asX (i := 5) rfl rfl sc_read_string.nd rfl rfl ⟨rfl, by decide, .inl T.hf.gC⟩ (fun _ _ z => by cases z) (L2H.passesAt_of rfl) (L2.takes_of rfl rfl rfl rfl) (fun _ _ _ _ _ z => z) (fun W pn xe tk _ => pss_one (ps_set (i := 4) sc_read_string.nd rfl (Or.inl rfl) (pe_fS G_decoded (hr.mono (by decide)) (fun σ => L2N.passAt tk σ) (pa_cons (pv 4) pa_nil)))) (fun a oe cls d pn xe hz hf tkS hot => pss_one (L2H.ps_raiseH hot tkS (pmkN_hf HP T.hf hd (pa_cons (PE.nox (L2.pe_xf ⟨T.hf.ga, T.hf.gg, T.hf.exC, T.hf.hdC⟩ T.hf.noW hz.zc hf (pv 5))) (pa_cons (pv 1) pa_nil))))))) pss_nil) (pss_one (ps_ret (pe_tup (pa_cons (pv 4) (pa_cons (pe_op op_add (pv 3) (pv 2)) pa_nil))))))))), ?_⟩
  unfold rdStr at ho
  cases e : rdInt ns p 7 with
  | error x =>
    rw [e] at ho
    refine ⟨_, rfl, _, rfl, _, ns, p, 7, rfl, ⟨t, rfl, ht⟩, hl, by decide, ?_⟩
    rw [e]
    exact ho
  | ok z =>
    obtain ⟨n, q⟩ := z
    rw [e] at ho
    dsimp only at ho
    obtain ⟨n0, pq, ql⟩ := rdInt_ok e
    refine ⟨_, rfl, _, rfl, _, ns, p, 7, rfl, ⟨t, rfl, ht⟩, hl, by decide, ?_⟩
    rw [e]
    intro t2 H1 s1 h2
    have ht1 := s1 _ _ ht
    refine ⟨t2, _, rfl, SqT.of h2, rfl, _, _, rfl, _, _, rfl, rfl, ?_⟩
    refine ⟨_, rfl, _, rfl, _, _, rfl, rfl, _, rfl, t, _, rfl, .inr (SqT.of ht1), _, _, rfl, rfl, _, rfl, ?_⟩
    rw [List.length_map]
    show (if decide ((ns.length : Int) < (q : Int) + n) = true then _ else _)
    by_cases c : q + n.toNat > ns.length
    · rw [if_pos c] at ho
      rw [decide_eq_true (show (ns.length : Int) < (q : Int) + n by omega)]
      refine iteT ⟨_, rfl, t, _, rfl, .inr (SqT.of ht1), _, _, rfl, fun d hdn => ?_⟩
      rw [List.length_map]
      exact ho d _ (s1.nwr hdn) upd_same
    rw [if_neg c] at ho
    rw [decide_eq_false (show ¬ (ns.length : Int) < (q : Int) + n by omega)]
    refine iteF ⟨fun σ' H' => ∃ tt : Addr, σ' = [some (.ref t), some (.int (p : Int)), some (.int n), some (.int (q : Int)), some (.ref tt), none] ∧ Same H H' ∧ H' tt = some (.tup (((ns.drop q).take n.toNat).map V.int)), ?_, ?_⟩
    · refine ⟨_, rfl, _, rfl, _, rfl, _, rfl, _, rfl, _, _, rfl, rfl, _, rfl, t, _, rfl, SqT.of ht1, fun whole => ?_, fun part pp hpp => ?_⟩
      · refine ⟨t, _, rfl, .inr ⟨SqT.of ht1, t, rfl, s1, ?_⟩⟩
        rw [ht1]
        have w1 := whole.1
        have w2 := whole.2
        rw [show (q : Int) = ((q : Nat) : Int) from rfl, HT.sIx_nat] at w1
        rw [show (q : Int) + n = ((q + n.toNat : Nat) : Int) by omega, HT.sIx_nat] at w2
        rw [List.length_map] at w1 w2
        have q0 : q = 0 := by omega
        rw [q0, List.drop_zero, List.take_of_length_le (by omega)]
      · refine ⟨pp, _, rfl, .inr ⟨SqT.of upd_same, pp, rfl, s1.nwr hpp, ?_⟩⟩
        rw [upd_same, show (q : Int) + n = ((q + n.toNat : Nat) : Int) by omega, cut_mid _ _ _ (by rw [List.length_map]; omega), ← List.map_drop, ← List.map_take, Nat.add_sub_cancel_left]
    · rintro σ' H' ⟨tt, rfl, s', htt⟩
      have ht' := s' _ _ ht
      have hpl : p < ns.length := by omega
      obtain ⟨o, ep⟩ : ∃ o, ns[p]? = some o := ⟨_, List.getElem?_eq_getElem hpl⟩
      have eg : ns.getD p 0 = o := by rw [List.getD_eq_getElem?_getD, ep]; rfl
      rw [eg] at ho
      have lrow : ((ns.drop q).take n.toNat).length ≤ 100000 := by
        rw [List.length_take]; rw [List.length_drop]
        omega
      generalize (ns.drop q).take n.toNat = row at *
      refine ⟨fun σ' H' => ∃ (tt : Addr) (r : List Int), σ' = [some (.ref t), some (.int (p : Int)), some (.int n), some (.int (q : Int)), some (.ref tt), none] ∧ Same H H' ∧ H' tt = some (.tup (r.map V.int)) ∧ (∀ t a H', Same H H' → H' t = some (.tup [a, .int ((q + n.toNat : Nat) : Int)]) → TI H' a r → Q (.ref t) H'), ?_, ?_⟩
      · refine ⟨_, rfl, _, rfl, t, _, _, _, rfl, rfl, SqT.of ht', atI_nat (at_map ep), _, _, rfl, rfl, _, rfl, ?_⟩
        show (if decide ((128 : Int) ≤ o) = true then _ else _)
        by_cases c2 : o ≥ 128
        · rw [if_pos c2] at ho
          rw [decide_eq_true (show (128 : Int) ≤ o from c2)]
          refine iteT ⟨_, rfl, _, row, rfl, ⟨tt, rfl, htt⟩, lrow, fun dn d H2 s2 hd2 => ?_, fun r dr v H2 s2 tv => ?_⟩
          · rw [dn] at ho
            refine ⟨T.hf.te, fun a na => ⟨_, rfl, rfl, rfl, d, _, _, rfl, hd2, rfl, _, rfl, _, _, rfl, fun d2 hd2' => ?_⟩⟩
            exact ho d2 _ ((s'.trans s2).nwr hd2') upd_same
          · rw [dr] at ho
            obtain ⟨tr, rfl, htr⟩ := tv
            exact ⟨tr, r, rfl, s'.trans s2, htr, ho⟩
        · rw [if_neg c2] at ho
          rw [decide_eq_false (show ¬ (128 : Int) ≤ o from c2)]
          exact iteF ⟨tt, row, rfl, s', htt, ho⟩
      · rintro σ' H' ⟨tt, r, rfl, s', htt, ho⟩
        refine ⟨_, rfl, _, rfl, _, rfl, _, _, rfl, rfl, by show 2 ≤ sizeLine; decide, fun pp hpp => ?_⟩
        refine ho pp _ _ (s'.nwr hpp) ?_ ⟨tt, rfl, (Same.nw hpp) _ _ htt⟩
        rw [upd_same, show ((q + n.toNat : Nat) : Int) = (q : Int) + n by omega]
end
end BR
/-! BrProg4: Unpacker -/
namespace BR
open PySem PySem.Spec PyProof.Rows L2
def unF (m : Addr) : List (Str × V) := [("limit", .int 4096), ("rows", .ref m)]
theorem unF_limit (m : Addr) : (unF m).lookup ("limit" : Str) = some (.int 4096) := by rfl
theorem unF_rows (m : Addr) : (unF m).lookup ("rows" : Str) = some (.ref m) := by rfl
theorem unF_no (m : Addr) {x : Str} (h1 : (x == ("limit" : Str)) = false) (h2 : (x == ("rows" : Str)) = false) : (unF m).lookup x = none := by
  unfold unF
  simp only [List.lookup, h1, h2]
/-- the unpacker at u, its table at m -/
def UnAt (un : Addr) (H : Hp) (u m : Addr) : Prop := ∃ dx, H u = some (.ins un dx (unF m))
theorem UnAt.same {un : Addr} {H H' : Hp} {u m : Addr} (h : UnAt un H u m) (s : Same H H') : UnAt un H' u m := by
  obtain ⟨dx, h⟩ := h
  exact ⟨dx, s _ _ h⟩
theorem UnAt.ne {un mt av : Addr} {H : Hp} {u m : Addr} {kept : List Pr} {r : Int} (h : UnAt un H u m) (M : MtAt mt av H m kept r) : u ≠ m := by
  obtain ⟨dx, h⟩ := h
  obtain ⟨dx', l, vs, h', _⟩ := M
  refine ne_of h h' fun z => ?_
  injection z with _ _ z
  have := congrArg List.length z
  revert this
  show ¬ (2 = 3)
  decide
theorem UnAt.fr {un mt av : Addr} {H H' : Hp} {u m : Addr} {kept : List Pr} {r : Int} (h : UnAt un H u m) (M : MtAt mt av H m kept r) (f : Fr m H H') : UnAt un H' u m := by
  have n := h.ne M
  obtain ⟨dx, h⟩ := h
  exact ⟨dx, f _ _ n h⟩
def spTable (un : Addr) : Sp := fun vs H Q _ => ∃ u m : Addr, vs = [.ref u] ∧ UnAt un H u m ∧ Q (.ref m) H
def spUnI (un mt : Addr) : Sp := fun vs H Q _ => ∃ (x dx : Addr), vs = [.ref x, .int 4096] ∧ H x = some (.ins un dx []) ∧ ∀ m H', Fr x H H' → H m = none → UnAt un H' x m → MtAt mt m H' m [] 4096 → Q .non H'
def spKnown (un mt C : Addr) : Sp := fun vs H Q E => ∃ (u m av : Addr) (n : Int) (p : Nat) (kept : List Pr) (r : Int), vs = [.ref u, .int n, .int (p : Int)] ∧ UnAt un H u m ∧ MtAt mt av H m kept r ∧ 0 ≤ n ∧
  (rowAt ⟨kept, r⟩ n = none → Raisd C "row" (p : Int) Same H E) ∧ (∀ pr, rowAt ⟨kept, r⟩ n = some pr → ∀ v H', Same H H' → TP H' v pr → Q v H')
def spReadPair (un mt C : Addr) : Sp := fun vs H Q E => ∃ (u m av : Addr) (v : V) (ns : List Int) (p : Nat) (kept : List Pr) (r : Int), vs = [.ref u, v, .int (p : Int)] ∧ UnAt un H u m ∧ MtAt mt av H m kept r ∧ kept.length ≤ 900000 ∧ TI H v ns ∧ ns.length ≤ 100000 ∧ p < ns.length ∧
  Outc C (Fr m) H E (rdPair ⟨kept, r⟩ ns p) fun z => ∀ t a H', Fr m H H' → MtAt mt av H' m z.2.2.kept z.2.2.room → H' t = some (.tup [a, .int (z.2.1 : Int)]) → TP H' a z.1 → Q (.ref t) H'
theorem Raisd.fr {C m : Addr} {H H1 : Hp} {E : XK} {w : Str} {i : Int} (f : Fr m H H1) (h : Raisd C w i (Fr m) H E) : Raisd C w i Same H1 E := fun d H' s e => h d H' (f.trans (Fr.of s)) e
theorem Raisd.fr2 {C m : Addr} {H H1 : Hp} {E : XK} {w : Str} {i : Int} (f : Fr m H H1) (h : Raisd C w i (Fr m) H E) : Raisd C w i (Fr m) H1 E := fun d H' s e => h d H' (f.trans s) e
section
variable {P : Program} {w : World} {K : PySem.W.Frag} {mg : Str → Option Value} {base : Heap} {mt un hC hI hL hD aM aC aF : Addr}
theorem sc_Unpacker_table : FnScope ["self"] ["self"] (defScope sUnTable) := ⟨rfl, rfl, rfl, by decide +kernel, rfl, by decide +kernel, by decide +kernel⟩
theorem ok_unTable {f : Addr} {fd : FuncData} (F : FnP K "table" "Unpacker.table" sUnTable f fd) (T : Tx K mg mt un hC hI hL hD aM aC aF) : FnOk P w K mg base CX0 1 f fd ["self"] (spTable un) := by
  refine ok0 F sc_Unpacker_table (fun vs H Q E h => ?_) (fun cdv A outer s H vs Q E hr h => ?_)
  · obtain ⟨u, m, rfl, _⟩ := h
    rfl
  obtain ⟨u, m, rfl, ⟨dx, h1⟩, k⟩ := h
  refine ⟨_, (pss_one (ps_ret (pe_fld (pv 0) rfl))), ?_⟩
  exact ⟨_, rfl, u, un, dx, _, _, rfl, h1, T.cUn, T.nRows, unF_rows _, k⟩
theorem sc_Unpacker___init__ : FnScope ["self", "limit"] ["self", "limit"] (defScope sUnI) := ⟨rfl, rfl, rfl, by decide +kernel, rfl, by decide +kernel, by decide +kernel⟩
theorem ok_unI {f fM : Addr} {fd fdM : FuncData} (F : FnP K "__init__" "Unpacker.__init__" sUnI f fd) (T : Tx K mg mt un hC hI hL hD aM aC aF) (MkM : Mk K mt fM) (GM : FnOk P w K mg base CX0 1 fM fdM ["self", "room"] (spMtI mt)) (bM : Binds K fdM ["self", "room"] []) :
    FnOk P w K mg base CX0 3 f fd ["self", "limit"] (spUnI un mt) := by
  refine ok0 F sc_Unpacker___init__ (fun vs H Q E h => ?_) (fun cdv A outer s H vs Q E hr h => ?_)
  · obtain ⟨x, dx, rfl, _⟩ := h
    rfl
  obtain ⟨x, dx, rfl, h0, k⟩ := h
  refine ⟨_, (pss_cons (ps_fld (pv 0) (pv 1) rfl) (pss_one (ps_fld (pv 0) (pe_make MkM GM (hr.mono (by decide)) rfl T.gMt bM .nil pass0 (pa_cons (pv 1) pa_nil)) rfl))), ?_⟩
  refine ⟨_, rfl, _, rfl, x, un, dx, _, rfl, h0, T.cUn, T.nLimit, by show 0 < 1000; decide, ?_⟩
  refine ⟨_, rfl, fun y dy ny ndy ney => ?_⟩
  have nxy : x ≠ y := ne_of_none upd_same ny
  have nxd : x ≠ dy := ne_of_none upd_same ndy
  refine ⟨y, dy, 4096, rfl, upd_same, fun H1 f1 M1 => ⟨rfl, ?_⟩⟩
  have hx1 := f1 x _ nxy ((upd_ne nxy).trans ((upd_ne nxd).trans upd_same))
  refine ⟨_, rfl, x, un, dx, _, rfl, hx1, T.cUn, T.nRows, by show 1 < 1000; decide, ?_⟩
  have ny0 : H y = none := by
    rw [upd_ne (Ne.symm nxy)] at ny
    exact ny
  refine k y _ (fun b o n e => ?_) ny0 ⟨dx, upd_same⟩ ?_
  · have e1 : upd H x (.ins un dx (putF "limit" (.int 4096) [])) b = some o := (upd_ne n).trans e
    rw [upd_ne n]
    exact f1 b o (ne_of_none e1 ny) ((upd_ne (ne_of_none e1 ny)).trans (Same.nw ndy b o e1))
  · obtain ⟨dx', l, vs, m1, m2, m3, m4, m5⟩ := M1
    have nly : l ≠ x := ne_of m2 hx1 (fun z => by cases z)
    exact ⟨dx', l, vs, by rw [upd_ne (Ne.symm nxy)]; exact m1, by rw [upd_ne nly]; exact m2, m3.imp fun _ _ z => z.kt ((Fr.own).kt (nt_ins hx1)), m4, m5.fr Fr.own upd_same⟩
theorem sc_Unpacker_known : FnScope ["self", "number", "at", "row"] ["self", "number", "at"] (defScope sUnKnown) := ⟨rfl, rfl, rfl, by decide +kernel, rfl, by decide +kernel, by decide +kernel⟩
theorem ok_unKnown {f : Addr} {fd : FuncData} (F : FnP K "known" "Unpacker.known" sUnKnown f fd) (HP : HFP P) (T : Tx K mg mt un hC hI hL hD aM aC aF) (M_row : HasM P w K mg base CX0 3 mt "row" ["self", "number"] (spMtRow mt)) : FnOk P w K mg base (L2.CX P w) 4 f fd ["self", "number", "at"] (spKnown un mt hC) := by
  refine F.ok sc_Unpacker_known (fun vs H Q E h => ?_) (fun cdv A outer s H vs Q E hr h => ?_)
  · obtain ⟨u, m, av, n, p, kept, r, rfl, _⟩ := h
    rfl
  have hd := hf_room hr
  obtain ⟨u, m, av, n, p, kept, r, rfl, ⟨dx, hu⟩, M, n0, kN, kS⟩ := h
  refine ⟨_, (pss_cons (ps_set (i := 3) sc_Unpacker_known.nd rfl (Or.inl rfl) pe_non) (C8.pss_cut (ps_if (pt_cmpR op_gt (pv 1) pe_int (nomark _)) (pss_one (ps_set (i := 3) sc_Unpacker_known.nd rfl (Or.inl rfl) (pe_me M_row T.cMt (pe_fld (pv 0) rfl) (hr.mono (by decide)) pass0 (pa_cons (pv 1) pa_nil)))) pss_nil) (pss_cons (ps_if (pt_cmpR op_isN (pv 3) pe_non (nomark _)) (pss_one (L2.ps_raise rfl (L2.takes_of rfl rfl rfl rfl) (pmk_ofN (pmkN_hf HP T.hf hd (pa_cons pe_str (pa_cons (pv 2) pa_nil)))))) pss_nil) (pss_one (ps_ret (pv 3)))))), ?_⟩
  refine ⟨fun σ' H' => ∃ v, σ' = [some (.ref u), some (.int n), some (.int (p : Int)), some v] ∧ Same H H' ∧ ((v = .non ∧ rowAt ⟨kept, r⟩ n = none) ∨ ∃ pr, rowAt ⟨kept, r⟩ n = some pr ∧ TP H' v pr), ?_, ?_⟩
  · refine ⟨_, rfl, _, _, rfl, rfl, _, rfl, ?_⟩
    show (if decide ((0 : Int) < n) = true then _ else _)
    by_cases c : (0 : Int) < n
    · rw [decide_eq_true c]
      obtain ⟨dm, l, vs, hm, h2, h3, _⟩ := id M
      refine iteT ⟨_, rfl, u, un, dx, _, _, rfl, hu, T.cUn, T.nRows, unF_rows _, m, dm, _, rfl, hm, mtF_no _ _ _ (by decide +kernel) (by decide +kernel) (by decide +kernel), _, rfl, m, av, n, kept, r, rfl, M, by omega, fun e H' s' => ?_, fun pr e v H' s' tv => ?_⟩
      · exact ⟨.non, rfl, s', .inl ⟨rfl, e⟩⟩
      · exact ⟨v, rfl, s', .inr ⟨pr, e, tv⟩⟩
    · rw [decide_eq_false c]
      refine iteF ⟨.non, rfl, Same.refl H, .inl ⟨rfl, ?_⟩⟩
      unfold rowAt
      rw [if_pos (by omega)]
  · rintro σ' H' ⟨v, rfl, s', hv⟩
    refine ⟨_, rfl, rfl, _, rfl, ?_⟩
    show (if decide (v = V.non) = true then _ else _)
    rcases hv with ⟨rfl, e⟩ | ⟨pr, e, tv⟩
    · refine iteT ⟨_, rfl, _, _, rfl, fun d hdn => ?_⟩
      exact kN e d _ (s'.nwr hdn) upd_same
    · obtain ⟨t, a, b, rfl, rest⟩ := id tv
      refine iteF ⟨_, rfl, ?_⟩
      exact kS pr e _ H' s' tv
theorem sc_Unpacker_read_pair : FnScope ["self", "octets", "at", "first", "number", "behind", "added", "name", "value"] ["self", "octets", "at"] (defScope sUnPair) := ⟨rfl, rfl, rfl, by decide +kernel, rfl, by decide +kernel, by decide +kernel⟩
theorem ok_unPair {f : Addr} {fd : FuncData} (F : FnP K "read_pair" "Unpacker.read_pair" sUnPair f fd) (HP : HFP P) (T : Tx K mg mt un hC hI hL hD aM aC aF) (G_read_int : HasF P w K mg base (L2.CX P w) 1 "read_int" ["octets", "at", "n"] (spReadInt hC)) (G_read_string : HasF P w K mg base (L2.CX P w) 5 "read_string" ["octets", "at"] (spReadStr hC))
    (M_known : HasM P w K mg base (L2.CX P w) 4 un "known" ["self", "number", "at"] (spKnown un mt hC)) (M_add : HasM P w K mg base CX0 3 mt "add" ["self", "name", "value"] (spMtAdd mt)) : FnOk P w K mg base (L2.CX P w) 6 f fd ["self", "octets", "at"] (spReadPair un mt hC) := by
  refine F.ok sc_Unpacker_read_pair (fun vs H Q E h => ?_) (fun cdv A outer s H vs Q E hr h => ?_)
  · obtain ⟨u, m, av, v, ns, p, kept, r, rfl, _⟩ := h
    rfl
  have hd := hf_room hr
  obtain ⟨u, m, av, v, ns, p, kept, r, rfl, U, M, lk, ⟨t, rfl, ht⟩, hl, hp, ho⟩ := h
  obtain ⟨o, ep⟩ : ∃ o, ns[p]? = some o := ⟨_, List.getElem?_eq_getElem hp⟩
  have eg : ns.getD p 0 = o := by rw [List.getD_eq_getElem?_getD, ep]; rfl
  rw [rdPair_name, eg] at ho
  dsimp only at ho
  refine ⟨_, (pss_cons (ps_set (i := 3) sc_Unpacker_read_pair.nd rfl (Or.inl rfl) (pe_ix ix_tup (pv 1) (pv 2) (fun _ _ => rfl))) (pss_cons (ps_if (pt_cmpR op_ge (pv 3) pe_int (nomark _)) (pss_cons (ps_asg (pe_f G_read_int (hr.mono (by decide)) (L2.passes_call (L2.takes_of rfl rfl rfl rfl) (fun _ _ _ _ h => h)) (pa_cons (pv 1) (pa_cons (pv 2) (pa_cons pe_int pa_nil)))) (pg_tup (by rfl) (pgs_cons (pg_name (i := 4) sc_Unpacker_read_pair.nd rfl (Or.inl rfl)) (pgs_cons (pg_name (i := 5) sc_Unpacker_read_pair.nd rfl (Or.inl rfl)) pgs_nil)))) (pss_one (ps_ret (pe_tup (pa_cons (pe_me M_known T.cUn (pv 0) (hr.mono (by decide)) (L2.passes_call (L2.takes_of rfl rfl rfl rfl) (fun _ _ _ _ h => h)) (pa_cons (pv 4) (pa_cons (pv 2) pa_nil))) (pa_cons (pv 5) pa_nil)))))) pss_nil) (pss_cons (ps_set (i := 6) sc_Unpacker_read_pair.nd rfl (Or.inl rfl) (pe_cmpR op_ge (pv 3) pe_int (nomark _))) (C8.pss_cut (ps_asg (pe_f G_read_int (hr.mono (by decide)) (L2.passes_call (L2.takes_of rfl rfl rfl rfl) (fun _ _ _ _ h => h)) (pa_cons (pv 1) (pa_cons (pv 2) (pa_cons (pe_ifExp (pt_val (pv 6)) pe_int pe_int) pa_nil)))) (pg_tup (by rfl) (pgs_cons (pg_name (i := 4) sc_Unpacker_read_pair.nd rfl (Or.inl rfl)) (pgs_cons (pg_name (i := 5) sc_Unpacker_read_pair.nd rfl (Or.inl rfl)) pgs_nil)))) (C8.pss_cut (ps_if (pt_cmpR op_eq (pv 4) pe_int (nomark _)) (pss_one (ps_asg (pe_f G_read_string (hr.mono (by decide)) (L2.passes_call (L2.takes_of rfl rfl rfl rfl) (fun _ _ _ _ h => h)) (pa_cons (pv 1) (pa_cons (pv 5) pa_nil))) (pg_tup (by rfl) (pgs_cons (pg_name (i := 7) sc_Unpacker_read_pair.nd rfl (Or.inl rfl)) (pgs_cons (pg_name (i := 5) sc_Unpacker_read_pair.nd rfl (Or.inl rfl)) pgs_nil))))) (pss_one (ps_set (i := 7) sc_Unpacker_read_pair.nd rfl (Or.inl rfl) (pe_ix ix_tup (pe_me M_known T.cUn (pv 0) (hr.mono (by decide)) (L2.passes_call (L2.takes_of rfl rfl rfl rfl) (fun _ _ _ _ h => h)) (pa_cons (pv 4) (pa_cons (pv 2) pa_nil))) pe_int (fun _ _ => rfl))))) (pss_cons (ps_asg (pe_f G_read_string (hr.mono (by decide)) (L2.passes_call (L2.takes_of rfl rfl rfl rfl) (fun _ _ _ _ h => h)) (pa_cons (pv 1) (pa_cons (pv 5) pa_nil))) (pg_tup (by rfl) (pgs_cons (pg_name (i := 8) sc_Unpacker_read_pair.nd rfl (Or.inl rfl)) (pgs_cons (pg_name (i := 5) sc_Unpacker_read_pair.nd rfl (Or.inl rfl)) pgs_nil)))) (C8.pss_cut (ps_if (pt_val (pv 6)) (pss_one (ps_expr (pe_me M_add T.cMt (pe_fld (pv 0) rfl) (hr.mono (by decide)) pass0 (pa_cons (pv 7) (pa_cons (pv 8) pa_nil))))) pss_nil) (pss_one (ps_ret (pe_tup (pa_cons (pe_tup (pa_cons (pv 7) (pa_cons (pv 8) pa_nil))) (pa_cons (pv 5) pa_nil)))))))))))), ?_⟩
  refine ⟨_, rfl, _, rfl, t, _, _, _, rfl, rfl, SqT.of ht, atI_nat (at_map ep), ?_⟩
  refine ⟨_, rfl, _, _, rfl, rfl, _, rfl, ?_⟩
  show (if decide ((128 : Int) ≤ o) = true then _ else _)
  by_cases c1 : o ≥ 128
  · rw [decide_eq_true (show (128 : Int) ≤ o from c1)]
    rw [show bitsOf o = 7 by unfold bitsOf; rw [if_pos c1]] at ho
    refine iteT ⟨_, rfl, _, rfl, _, ns, p, 7, rfl, ⟨t, rfl, ht⟩, hl, by decide, ?_⟩
    cases e : rdInt ns p 7 with
    | error x =>
      rw [e] at ho
      exact Raisd.fr (Fr.refl m H) ho
    | ok z =>
      obtain ⟨n, q⟩ := z
      rw [e] at ho
      dsimp only at ho
      rw [if_pos c1] at ho
      have n0 := (rdInt_ok e).1
      intro t2 H1 s1 h2
      obtain ⟨dx, hu⟩ := id (U.same s1)
      refine ⟨t2, _, rfl, SqT.of h2, rfl, _, _, rfl, _, _, rfl, rfl, ?_⟩
      refine ⟨_, rfl, u, dx, _, rfl, hu, unF_no _ (by decide +kernel) (by decide +kernel), _, rfl, _, rfl, u, m, av, n, p, kept, r, rfl, U.same s1, M.same s1, n0, fun en => ?_, fun pr en v H2 s2 tv => ?_⟩
      · rw [en] at ho
        exact Raisd.fr (Fr.of s1) ho
      · rw [en] at ho
        refine ⟨_, rfl, by show 2 ≤ sizeLine; decide, fun y hy => ?_⟩
        have s3 := ((s1.trans s2).nwr hy (o := .tup [v, .int (q : Int)]))
        exact ho y v _ (Fr.of s3) (M.same s3) upd_same (tv.kt (Same.nw hy).kt)
  rw [decide_eq_false (show ¬ (128 : Int) ≤ o from c1)]
  refine iteF ⟨_, rfl, _, _, rfl, rfl, ?_⟩
  refine ⟨fun σ' H' => ∃ (n : Int) (q : Nat), σ' = [some (.ref u), some (.ref t), some (.int (p : Int)), some (.int o), some (.int n), some (.int (q : Int)), some (.bl (decide ((64 : Int) ≤ o))), none, none] ∧ Same H H' ∧ 0 ≤ n ∧ rdInt ns p (bitsOf o) = .ok (n, q), ?_, ?_⟩
  · refine ⟨_, rfl, _, rfl, _, rfl, _, rfl, ?_⟩
    refine ite2 (fun c => ?_) (fun c => ?_)
    · have c2 : o ≥ 64 := of_decide_eq_true c
      have eb : bitsOf o = 6 := by unfold bitsOf; rw [if_neg c1, if_pos c2]
      refine ⟨_, ns, p, 6, rfl, ⟨t, rfl, ht⟩, hl, by decide, ?_⟩
      rw [eb] at ho ⊢
      cases e : rdInt ns p 6 with
      | error x =>
        rw [e] at ho
        exact Raisd.fr (Fr.refl m H) ho
      | ok z =>
        obtain ⟨n, q⟩ := z
        intro t2 H1 s1 h2
        exact ⟨t2, _, rfl, SqT.of h2, rfl, _, _, rfl, _, _, rfl, rfl, n, q, rfl, s1, (rdInt_ok e).1, rfl⟩
    · have c2 : ¬ o ≥ 64 := fun z => c (decide_eq_true z)
      have eb : bitsOf o = 4 := by unfold bitsOf; rw [if_neg c1, if_neg c2]
      refine ⟨_, ns, p, 4, rfl, ⟨t, rfl, ht⟩, hl, by decide, ?_⟩
      rw [eb] at ho ⊢
      cases e : rdInt ns p 4 with
      | error x =>
        rw [e] at ho
        exact Raisd.fr (Fr.refl m H) ho
      | ok z =>
        obtain ⟨n, q⟩ := z
        intro t2 H1 s1 h2
        exact ⟨t2, _, rfl, SqT.of h2, rfl, _, _, rfl, _, _, rfl, rfl, n, q, rfl, s1, (rdInt_ok e).1, rfl⟩
  rintro σ' H1 ⟨n, q, rfl, s1, n0, e⟩
  rw [e] at ho
  dsimp only at ho
  rw [if_neg c1] at ho
  refine ⟨fun σ' H' => ∃ (x : List Int) (a : V) (q2 : Nat), σ' = [some (.ref u), some (.ref t), some (.int (p : Int)), some (.int o), some (.int n), some (.int (q2 : Int)), some (.bl (decide ((64 : Int) ≤ o))), some a, none] ∧ Same H H' ∧ TI H' a x ∧
    nameOf ⟨kept, r⟩ ns p q n = .ok (x, q2), ?_, ?_⟩
  · refine ⟨_, rfl, rfl, _, rfl, ?_⟩
    show (if decide (V.int n = V.int 0) = true then _ else _)
    unfold nameOf at ho ⊢
    by_cases c3 : n = 0
    · rw [decide_eq_true (show V.int n = V.int 0 by rw [c3])]
      rw [if_pos c3] at ho ⊢
      refine iteT ⟨_, rfl, _, rfl, _, ns, q, rfl, ⟨t, rfl, s1 _ _ ht⟩, hl, ?_⟩
      cases e2 : rdStr ns q with
      | error x =>
        rw [e2] at ho
        exact Raisd.fr (Fr.of s1) ho
      | ok z =>
        obtain ⟨x, q2⟩ := z
        intro t2 a H2 s2 h2 ta
        exact ⟨t2, _, rfl, SqT.of h2, rfl, _, _, rfl, _, _, rfl, rfl, x, a, q2, rfl, s1.trans s2, ta, rfl⟩
    · rw [decide_eq_false (show ¬ V.int n = V.int 0 from fun z => c3 (by injection z))]
      rw [if_neg c3] at ho ⊢
      obtain ⟨dx, hu⟩ := id (U.same s1)
      refine iteF ⟨_, rfl, u, dx, _, rfl, hu, unF_no _ (by decide +kernel) (by decide +kernel), _, rfl, _, rfl, u, m, av, n, p, kept, r, rfl, U.same s1, M.same s1, n0, fun en => ?_, fun pr en v H2 s2 tv => ?_⟩
      · rw [en] at ho
        exact Raisd.fr (Fr.of s1) ho
      · obtain ⟨y, na, nb, rfl, hy, ta, tb⟩ := tv
        exact ⟨y, _, _, _, rfl, rfl, SqT.of hy, rfl, pr.1, na, q, rfl, s1.trans s2, ta, by rw [en]⟩
  rintro σ' H2 ⟨x, a, q2, rfl, s2, ta, e2⟩
  rw [e2] at ho
  dsimp only at ho
  refine ⟨_, rfl, _, rfl, _, ns, q2, rfl, ⟨t, rfl, s2 _ _ ht⟩, hl, ?_⟩
  cases e3 : rdStr ns q2 with
  | error x =>
    rw [e3] at ho
    exact Raisd.fr (Fr.of s2) ho
  | ok z =>
    obtain ⟨y, q3⟩ := z
    rw [e3] at ho
    dsimp only at ho
    intro t2 b H3 s3 h3 tb
    have s23 := s2.trans s3
    refine ⟨t2, _, rfl, SqT.of h3, rfl, _, _, rfl, _, _, rfl, rfl, ?_⟩
    refine ⟨fun σ' H' => σ' = [some (.ref u), some (.ref t), some (.int (p : Int)), some (.int o), some (.int n), some (.int (q3 : Int)), some (.bl (decide ((64 : Int) ≤ o))), some a, some b] ∧ Fr m H H' ∧ TI H' a x ∧ TI H' b y ∧
      (∀ t a H'', Fr m H' H'' → H'' t = some (.tup [a, .int (q3 : Int)]) → TP H'' a (x, y) → Same H' H'' → Q (.ref t) H''), ?_, ?_⟩
    · refine ⟨_, rfl, _, rfl, ?_⟩
      refine ite2 (fun c => ?_) (fun c => ?_)
      · have c2 : o ≥ 64 := of_decide_eq_true c
        rw [if_pos c2] at ho
        obtain ⟨dx, hu⟩ := id (U.same s23)
        have M3 := M.same s23
        obtain ⟨dm, l, vs, hm, h2, h3, _⟩ := id M3
        refine ⟨_, rfl, u, un, dx, _, _, rfl, hu, T.cUn, T.nRows, unF_rows _, m, dm, _, rfl, hm, mtF_no _ _ _ (by decide +kernel) (by decide +kernel) (by decide +kernel), _, rfl, _, rfl, m, av, a, b, (x, y), kept, r, rfl, ta.kt s3.kt, tb, M3, lk, fun H4 f4 M4 => ?_⟩
        have k4 := f4.kt M3.nt
        refine ⟨rfl, (Fr.of s23).trans f4, (ta.kt s3.kt).kt k4, tb.kt k4, fun t a H5 f5 h5 tp s5 => ?_⟩
        exact ho t a H5 (((Fr.of s23).trans f4).trans f5) (M4.same s5) h5 tp
      · have c2 : ¬ o ≥ 64 := fun z => c (decide_eq_true z)
        rw [if_neg c2] at ho
        exact ⟨rfl, Fr.of s23, ta.kt s3.kt, tb, fun t a H5 f5 h5 tp s5 => ho t a H5 ((Fr.of s23).trans f5) ((M.same s23).same s5) h5 tp⟩
    · rintro σ' H4 ⟨rfl, f4, ta4, tb4, k⟩
      refine ⟨_, rfl, _, rfl, by show 2 ≤ sizeLine; decide, fun y1 hy1 => ?_⟩
      refine ⟨_, rfl, by show 2 ≤ sizeLine; decide, fun y2 hy2 => ?_⟩
      have n12 : y1 ≠ y2 := ne_of_none upd_same hy2
      have k1 := (Same.nw (o := .tup [a, b]) hy1)
      have k2 := k1.nwr (o := .tup [.ref y1, .int (q3 : Int)]) hy2
      exact k y2 (.ref y1) _ (Fr.of k2) upd_same ⟨y1, a, b, rfl, by rw [upd_ne n12, upd_same], ta4.kt k2.kt, tb4.kt k2.kt⟩ k2
end
end BR
/-! BrProg5: Unpacker.read_rooms, Unpacker.unpack -/
namespace BR
open PySem PySem.Spec PyProof.Rows L2
theorem roomB (o : Int) : decide (V.int (o / 2 ^ 5) = V.int 1) = decide (isRoom o) := by
  by_cases c : isRoom o
  · rw [decide_eq_true c]
    exact decide_eq_true (congrArg V.int c)
  · rw [decide_eq_false c]
    exact decide_eq_false fun z => c (V.int.inj z)
/-- the state at the beginning -/
abbrev s0 (kept : List Pr) (r : Int) : BR.St := ⟨0, 0, [], ⟨kept, r⟩⟩
theorem Ahead.refl (bs : List Int) (s : BR.St) : Ahead bs s s := fun _ _ => rfl
theorem AheadE.unp {bs : List Int} {kept : List Pr} {r : Int} {f : Ft} (h : AheadE bs (s0 kept r) f) : unp ⟨kept, r⟩ bs = .error f := h _ (Nat.le_refl _)
def spRooms (un mt C : Addr) : Sp := fun vs H Q E => ∃ (u m av : Addr) (v : V) (ns : List Int) (kept : List Pr) (r : Int), vs = [.ref u, v] ∧ UnAt un H u m ∧ MtAt mt av H m kept r ∧ TbOk ⟨kept, r⟩ ∧ TI H v ns ∧ ns.length ≤ 100000 ∧
  (∀ f, AheadE ns (s0 kept r) f → Raisd C (wS f.1) (f.2 : Int) (Fr m) H E) ∧
  ∀ s H', Fr m H H' → MtAt mt av H' m s.tb.kept s.tb.room → Ahead ns (s0 kept r) s → TbOk s.tb → s.pairs = [] → s.at_ ≤ ns.length → (s.at_ < ns.length → isRoom (ns.getD s.at_ 0) → 1 < s.rooms) → Q (.int (s.at_ : Int)) H'
def spUnpack (un mt C : Addr) : Sp := fun vs H Q E => ∃ (u m av : Addr) (v : V) (ns : List Int) (kept : List Pr) (r : Int), vs = [.ref u, v] ∧ UnAt un H u m ∧ MtAt mt av H m kept r ∧ TbOk ⟨kept, r⟩ ∧ TI H v ns ∧ ns.length ≤ 100000 ∧
  Outc C (Fr m) H E (unp ⟨kept, r⟩ ns) fun s => ∀ l ls H', Fr m H H' → H' l = some (.lst ls) → All2 (TP H') ls s.pairs → MtAt mt m H' m s.tb.kept s.tb.room → Q (.ref l) H'
section
variable {P : Program} {w : World} {K : PySem.W.Frag} {mg : Str → Option Value} {base : Heap} {mt un hC hI hL hD aM aC aF : Addr}
theorem sc_Unpacker_read_rooms : FnScope ["self", "octets", "at", "count", "room", "behind"] ["self", "octets"] (defScope sUnRooms) := ⟨rfl, rfl, rfl, by decide +kernel, rfl, by decide +kernel, by decide +kernel⟩
theorem ok_unRooms {f : Addr} {fd : FuncData} (F : FnP K "read_rooms" "Unpacker.read_rooms" sUnRooms f fd) (HP : HFP P) (T : Tx K mg mt un hC hI hL hD aM aC aF) (G_read_int : HasF P w K mg base (L2.CX P w) 1 "read_int" ["octets", "at", "n"] (spReadInt hC))
    (M_resize : HasM P w K mg base CX0 3 mt "resize" ["self", "room"] (spResize mt)) (M_room : HasM P w K mg base CX0 1 mt "room" ["self"] (spMtRoom mt)) : FnOk P w K mg base (L2.CX P w) 4 f fd ["self", "octets"] (spRooms un mt hC) := by
  refine F.ok sc_Unpacker_read_rooms (fun vs H Q E h => ?_) (fun cdv A outer s H vs Q E hr h => ?_)
  · obtain ⟨u, m, av, v, ns, kept, r, rfl, _⟩ := h
    rfl
  have hd := hf_room hr
  obtain ⟨u, m, av, v, ns, kept, r, rfl, U, M, tb, ⟨t, rfl, ht⟩, hl, hE, hQ⟩ := h
  refine ⟨_, (pss_cons (ps_set (i := 2) sc_Unpacker_read_rooms.nd rfl (Or.inl rfl) pe_int) (pss_cons (ps_set (i := 3) sc_Unpacker_read_rooms.nd rfl (Or.inl rfl) pe_int) (C8.pss_cut (ps_while (passes_of rfl) (PW.pt (pw_and (pt_cmpR op_lt (pv 2) (pe_callB call_len_seq (by rfl) T.len (by decide +kernel) (pa_cons (pv 1) pa_nil)) (nomark _)) (pw_and (pt_cmpR op_eq (pe_op op_shrN (pe_ix ix_tup (pv 1) (pv 2) (fun _ _ => rfl)) pe_int) pe_int (nomark _)) (pw_and1 (pt_cmpR op_lt (pv 3) pe_int (nomark _)))))) (pss_cons (ps_asg (pe_f G_read_int (hr.mono (by decide)) (L2.passes_call (L2.takes_of rfl rfl rfl rfl) (fun _ _ _ _ h => h)) (pa_cons (pv 1) (pa_cons (pv 2) (pa_cons pe_int pa_nil)))) (pg_tup (by rfl) (pgs_cons (pg_name (i := 4) sc_Unpacker_read_rooms.nd rfl (Or.inl rfl)) (pgs_cons (pg_name (i := 5) sc_Unpacker_read_rooms.nd rfl (Or.inl rfl)) pgs_nil)))) (pss_cons (ps_if (pt_cmpR op_gt (pv 4) (pe_fld (pv 0) rfl) (nomark _)) (pss_one (L2.ps_raise rfl (L2.takes_of rfl rfl rfl rfl) (pmk_ofN (pmkN_hf HP T.hf hd (pa_cons pe_str (pa_cons (pv 2) pa_nil)))))) pss_nil) (pss_cons (ps_expr (pe_me M_resize T.cMt (pe_fld (pv 0) rfl) (hr.mono (by decide)) pass0 (pa_cons (pv 4) pa_nil))) (pss_cons (ps_set (i := 2) sc_Unpacker_read_rooms.nd rfl (Or.inl rfl) (pv 5)) (pss_one (ps_aug (i := 3) sc_Unpacker_read_rooms.nd rfl (Or.inl rfl) pe_int ip_add))))))) (pss_cons (ps_if (PW.pt (pw_and (pt_cmpR op_gt (pe_me0 M_room T.cMt (pe_fld (pv 0) rfl) (hr.mono (by decide)) pass0) (pe_fld (pv 0) rfl) (nomark _)) (pw_and1 (pt_cmpR (op_neD hr.units) (pv 1) (pe_tup pa_nil) (nomark _))))) (pss_one (L2.ps_raise rfl (L2.takes_of rfl rfl rfl rfl) (pmk_ofN (pmkN_hf HP T.hf hd (pa_cons pe_str (pa_cons pe_int pa_nil)))))) pss_nil) (pss_one (ps_ret (pv 2))))))), ?_⟩
  refine ⟨fun σ' H' => ∃ (s : BR.St) (a b : Option V), σ' = [some (.ref u), some (.ref t), some (.int (s.at_ : Int)), some (.int (s.rooms : Int)), a, b] ∧ Ahead ns (s0 kept r) s ∧ TbOk s.tb ∧ s.pairs = [] ∧ s.at_ ≤ ns.length ∧ MtAt mt av H' m s.tb.kept s.tb.room ∧ Fr m H H' ∧
    (s.at_ < ns.length → isRoom (ns.getD s.at_ 0) → 1 < s.rooms), ?_, ?_⟩
  · refine ⟨fun c σ' H' => ∃ (s : BR.St) (a b : Option V), c + s.rooms = 2 ∧ σ' = [some (.ref u), some (.ref t), some (.int (s.at_ : Int)), some (.int (s.rooms : Int)), a, b] ∧ Ahead ns (s0 kept r) s ∧ TbOk s.tb ∧ s.pairs = [] ∧ s.at_ ≤ ns.length ∧ MtAt mt av H' m s.tb.kept s.tb.room ∧ Fr m H H',
      ⟨2, s0 kept r, none, none, rfl, rfl, Ahead.refl _ _, tb, rfl, Nat.zero_le _, M, Fr.refl m H⟩, ?_⟩
    rintro c σ' H1 ⟨s, a, b, ec, rfl, A, tb1, ep, le, M1, f1⟩
    have ht1 := f1.tup M.nt ht
    refine ⟨_, rfl, _, rfl, t, _, rfl, .inr (SqT.of ht1), _, _, rfl, rfl, _, rfl, ?_⟩
    rw [List.length_map]
    refine ite2 (fun c1 => ?_) (fun c1 => ?_)
    rotate_left
    · exact ⟨s, a, b, rfl, A, tb1, ep, le, M1, f1, fun lt => (c1 (decide_eq_true (by omega))).elim⟩
    have lt : s.at_ < ns.length := by
      have := of_decide_eq_true c1
      omega
    obtain ⟨o, eo⟩ : ∃ o, ns[s.at_]? = some o := ⟨_, List.getElem?_eq_getElem lt⟩
    have eg : ns.getD s.at_ 0 = o := by rw [List.getD_eq_getElem?_getD, eo]; rfl
    refine ⟨_, rfl, _, rfl, t, _, _, _, rfl, rfl, SqT.of ht1, atI_nat (at_map eo), o, 5, rfl, rfl, rfl, _, rfl, ?_⟩
    rw [roomB]
    refine ite2 (fun c2 => ?_) (fun c2 => ?_)
    rotate_left
    · exact ⟨s, a, b, rfl, A, tb1, ep, le, M1, f1, fun _ z => (c2 (decide_eq_true (eg ▸ z))).elim⟩
    have rm : isRoom (ns.getD s.at_ 0) := eg.symm ▸ of_decide_eq_true c2
    refine ⟨_, rfl, _, _, rfl, rfl, _, rfl, ?_⟩
    refine ite2 (fun c3 => ?_) (fun c3 => ?_)
    rotate_left
    · exact ⟨s, a, b, rfl, A, tb1, ep, le, M1, f1, fun _ _ => by
        have : ¬ ((s.rooms : Int) < 2) := fun z => c3 (decide_eq_true z)
        omega⟩
    have l2 : s.rooms < 2 := by
      have := of_decide_eq_true c3
      omega
    have es : step ns s = match rdInt ns s.at_ 5 with
      | .error e => .error e
      | .ok (n, q) => if n > 4096 then .error (.room, s.at_) else .ok ⟨q, s.rooms + 1, s.pairs, fit s.tb.kept n, n⟩ := by
      unfold step
      rw [if_pos rm, if_neg (by rw [ep]; rintro (z | z); exact z rfl; omega)] <;> rfl
    refine ⟨fun σ' H' => ∃ (s' : BR.St) (a b : Option V), s'.rooms = s.rooms + 1 ∧ σ' = [some (.ref u), some (.ref t), some (.int (s'.at_ : Int)), some (.int (s'.rooms : Int)), a, b] ∧ Ahead ns (s0 kept r) s' ∧ TbOk s'.tb ∧ s'.pairs = [] ∧ s'.at_ ≤ ns.length ∧ MtAt mt av H' m s'.tb.kept s'.tb.room ∧ Fr m H H', fun σ' H' q => ?_, ?_⟩
    · obtain ⟨s', a, b, e, rest⟩ := q
      exact ⟨c - 1, by omega, s', a, b, by omega, rest⟩
    refine ⟨_, rfl, _, rfl, _, ns, s.at_, 5, rfl, ⟨t, rfl, ht1⟩, hl, by decide, ?_⟩
    cases e : rdInt ns s.at_ 5 with
    | error x =>
      rw [e] at es
      exact Raisd.fr f1 (hE x (A.err lt es))
    | ok z =>
      obtain ⟨n, q⟩ := z
      rw [e] at es
      dsimp only at es
      intro t2 H2 s2 h2
      obtain ⟨dx, hu⟩ := id ((U.fr M f1).same s2)
      refine ⟨t2, _, rfl, SqT.of h2, rfl, _, _, rfl, _, _, rfl, rfl, ?_⟩
      refine ⟨_, rfl, _, rfl, u, un, dx, _, _, rfl, hu, T.cUn, T.nLimit, unF_limit _, _, _, rfl, rfl, _, rfl, ?_⟩
      refine ite2 (fun c4 => ?_) (fun c4 => ?_)
      · have c4' : n > 4096 := of_decide_eq_true c4
        rw [if_pos c4'] at es
        refine ⟨_, rfl, _, _, rfl, fun d hdn => ?_⟩
        exact hE _ (A.err lt es) d _ ((f1.trans (Fr.of s2)).newer hdn) upd_same
      have c4' : ¬ n > 4096 := fun z => c4 (decide_eq_true z)
      rw [if_neg c4'] at es
      have M2 := M1.same s2
      obtain ⟨dm, l, vs, hm, h3, h4, _⟩ := id M2
      refine ⟨_, rfl, u, un, dx, _, _, rfl, hu, T.cUn, T.nRows, unF_rows _, m, dm, _, rfl, hm, mtF_no _ _ _ (by decide +kernel) (by decide +kernel) (by decide +kernel), _, rfl, m, av, n, s.tb.kept, s.tb.room, rfl, M2, fun H3 f3 M3 => ?_⟩
      refine ⟨_, rfl, _, rfl, _, _, rfl, rfl, ?_⟩
      exact ⟨⟨q, s.rooms + 1, s.pairs, fit s.tb.kept n, n⟩, _, _, rfl, rfl, A.more lt es, step_tb tb1 es, ep, (rdInt_ok e).2.2, M3, (f1.trans (Fr.of s2)).trans f3⟩
  · rintro σ' H1 ⟨s, a, b, rfl, A, tb1, ep, le, M1, f1, last⟩
    obtain ⟨dx, hu⟩ := id (U.fr M f1)
    obtain ⟨dm, l, vs, hm, h3, h4, _⟩ := id M1
    refine ⟨_, rfl, u, un, dx, _, _, rfl, hu, T.cUn, T.nRows, unF_rows _, m, dm, _, rfl, hm, mtF_no _ _ _ (by decide +kernel) (by decide +kernel) (by decide +kernel), m, av, s.tb.kept, s.tb.room, rfl, M1, ?_⟩
    refine ⟨_, rfl, u, un, dx, _, _, rfl, hu, T.cUn, T.nLimit, unF_limit _, _, _, rfl, rfl, _, rfl, ?_⟩
    refine ite2 (fun c4 => ?_) (fun c4 => ?_)
    · have := of_decide_eq_true c4
      have := tb1.2.1
      omega
    · exact ⟨_, rfl, hQ s H1 f1 M1 A tb1 ep le last⟩
theorem sc_Unpacker_unpack : FnScope ["self", "octets", "pairs", "at", "pair"] ["self", "octets"] (defScope sUnpack) := ⟨rfl, rfl, rfl, by decide +kernel, rfl, by decide +kernel, by decide +kernel⟩
theorem ok_unpack {f : Addr} {fd : FuncData} (F : FnP K "unpack" "Unpacker.unpack" sUnpack f fd) (HP : HFP P) (T : Tx K mg mt un hC hI hL hD aM aC aF) (M_read_rooms : HasM P w K mg base (L2.CX P w) 4 un "read_rooms" ["self", "octets"] (spRooms un mt hC))
    (M_read_pair : HasM P w K mg base (L2.CX P w) 6 un "read_pair" ["self", "octets", "at"] (spReadPair un mt hC)) : FnOk P w K mg base (L2.CX P w) 7 f fd ["self", "octets"] (spUnpack un mt hC) := by
  refine F.ok sc_Unpacker_unpack (fun vs H Q E h => ?_) (fun cdv A outer s H vs Q E hr h => ?_)
  · obtain ⟨u, m, av, v, ns, kept, r, rfl, _⟩ := h
    rfl
  have hd := hf_room hr
  obtain ⟨u, m, av, v, ns, kept, r, rfl, U, M, tb, ⟨t, rfl, ht⟩, hl, ho⟩ := h
  have hE : ∀ f, AheadE ns (s0 kept r) f → Raisd hC (wS f.1) (f.2 : Int) (Fr m) H E := fun f h => by
    rw [h.unp] at ho
    exact ho
  refine ⟨_, (pss_cons (ps_set (i := 1) sc_Unpacker_unpack.nd rfl (Or.inl rfl) (pe_callTy call_tuple_of (by rfl) T.tuple (by decide +kernel) (pa_cons (pv 1) pa_nil))) (pss_cons (ps_set (i := 2) sc_Unpacker_unpack.nd rfl (Or.inl rfl) (pe_lst pa_nil)) (pss_cons (ps_set (i := 3) sc_Unpacker_unpack.nd rfl (Or.inl rfl) (pe_me M_read_rooms T.cUn (pv 0) (hr.mono (by decide)) (L2.passes_call (L2.takes_of rfl rfl rfl rfl) (fun _ _ _ _ h => h)) (pa_cons (pv 1) pa_nil))) (pss_cons (ps_while (passes_of rfl) (pt_cmpR op_lt (pv 3) (pe_callB call_len_seq (by rfl) T.len (by decide +kernel) (pa_cons (pv 1) pa_nil)) (nomark _)) (pss_cons (ps_if (pt_cmpR op_eq (pe_op op_shrN (pe_ix ix_tup (pv 1) (pv 3) (fun _ _ => rfl)) pe_int) pe_int (nomark _)) (pss_one (L2.ps_raise rfl (L2.takes_of rfl rfl rfl rfl) (pmk_ofN (pmkN_hf HP T.hf hd (pa_cons pe_str (pa_cons (pv 3) pa_nil)))))) pss_nil) (pss_cons (ps_asg (pe_me M_read_pair T.cUn (pv 0) (hr.mono (by decide)) (L2.passes_call (L2.takes_of rfl rfl rfl rfl) (fun _ _ _ _ h => h)) (pa_cons (pv 1) (pa_cons (pv 3) pa_nil))) (pg_tup (by rfl) (pgs_cons (pg_name (i := 4) sc_Unpacker_unpack.nd rfl (Or.inl rfl)) (pgs_cons (pg_name (i := 3) sc_Unpacker_unpack.nd rfl (Or.inl rfl)) pgs_nil)))) (pss_one (ps_expr (pe_bm PySem.F.plainAttrs_list PySem.F.slot_list_append PySem.F.type_list_append mt_append (pv 2) (pa_cons (pv 4) pa_nil))))))) (pss_one (ps_ret (pv 2))))))), ?_⟩
  refine ⟨_, rfl, t, _, rfl, .inr ⟨SqT.of ht, Nat.zero_le _, fun l hl0 => ?_⟩⟩
  have nlm : l ≠ m := by
    obtain ⟨dm, _, _, hm, _⟩ := id M
    exact Ne.symm (ne_of_none hm hl0)
  have s1 := Same.nw (o := .lst []) hl0
  have M1 : MtAt mt l (upd H l (.lst [])) m kept r := M.shun hl0
  obtain ⟨dx, hu⟩ := id (U.same s1)
  refine ⟨_, rfl, u, dx, _, rfl, hu, unF_no _ (by decide +kernel) (by decide +kernel), _, rfl, u, m, l, _, ns, kept, r, rfl, U.same s1, M1, tb, ⟨t, rfl, s1 _ _ ht⟩, hl, fun f hf => Raisd.fr2 (Fr.of s1) (hE f hf), fun s H1 f1 M2 A2 tb2 ep2 le2 last2 => ?_⟩
  refine ⟨fun c σ' H' => ∃ (s : BR.St) (ls : List V) (a : Option V), c + s.at_ = ns.length ∧ σ' = [some (.ref u), some (.ref t), some (.ref l), some (.int (s.at_ : Int)), a] ∧ Ahead ns (s0 kept r) s ∧ TbOk s.tb ∧ s.pairs.length ≤ s.at_ ∧ H' l = some (.lst ls) ∧ All2 (TP H') ls s.pairs ∧ MtAt mt l H' m s.tb.kept s.tb.room ∧ Fr m H H' ∧
    (s.at_ < ns.length → isRoom (ns.getD s.at_ 0) → s.pairs ≠ [] ∨ 1 < s.rooms), ⟨ns.length - s.at_, s, [], none, by omega, rfl, A2, tb2, by rw [ep2]; exact Nat.zero_le _, f1 l _ nlm upd_same, by rw [ep2]; exact .nil, M2, (Fr.of s1).trans f1, fun a b => .inr (last2 a b)⟩, ?_⟩
  clear last2 le2 ep2 tb2 A2 M2 f1 H1 s
  rintro c σ' H1 ⟨s, ls, a, ec, rfl, A1, tb1, lp, hls, al, M1, f1, last⟩
  have ht1 := f1.tup M.nt ht
  refine ⟨_, rfl, _, rfl, t, _, rfl, .inr (SqT.of ht1), _, _, rfl, rfl, _, rfl, ?_⟩
  rw [List.length_map]
  refine ite2 (fun c1 => ?_) (fun c1 => ?_)
  rotate_left
  · have e := A1.done (fun z => c1 (decide_eq_true (by omega))) ns.length (Nat.le_refl _)
    unfold unp at ho
    rw [e] at ho
    exact ⟨_, rfl, ho l ls H1 f1 hls al M1.own⟩
  have lt : s.at_ < ns.length := by
    have := of_decide_eq_true c1
    omega
  obtain ⟨o, eo⟩ : ∃ o, ns[s.at_]? = some o := ⟨_, List.getElem?_eq_getElem lt⟩
  have eg : ns.getD s.at_ 0 = o := by rw [List.getD_eq_getElem?_getD, eo]; rfl
  refine ⟨fun σ' H' => ∃ (s' : BR.St) (ls : List V) (a : Option V), s.at_ < s'.at_ ∧ s'.at_ ≤ ns.length ∧ σ' = [some (.ref u), some (.ref t), some (.ref l), some (.int (s'.at_ : Int)), a] ∧ Ahead ns (s0 kept r) s' ∧ TbOk s'.tb ∧ s'.pairs.length ≤ s'.at_ ∧ H' l = some (.lst ls) ∧ All2 (TP H') ls s'.pairs ∧ MtAt mt l H' m s'.tb.kept s'.tb.room ∧ Fr m H H' ∧
    (s'.at_ < ns.length → isRoom (ns.getD s'.at_ 0) → s'.pairs ≠ [] ∨ 1 < s'.rooms), fun σ' H' q => ?_, ?_⟩
  · obtain ⟨s', ls, a, e1, e2, rest⟩ := q
    exact ⟨ns.length - s'.at_, by omega, s', ls, a, by omega, rest⟩
  refine ⟨_, rfl, _, rfl, t, _, _, _, rfl, rfl, SqT.of ht1, atI_nat (at_map eo), o, 5, rfl, rfl, rfl, _, rfl, ?_⟩
  rw [roomB]
  refine ite2 (fun c2 => ?_) (fun c2 => ?_)
  · have rm : isRoom (ns.getD s.at_ 0) := eg.symm ▸ of_decide_eq_true c2
    have es : step ns s = .error (.room, s.at_) := by
      unfold step
      rw [if_pos rm, if_pos (last lt rm)]
    refine ⟨_, rfl, _, _, rfl, fun d hdn => ?_⟩
    exact hE _ (A1.err lt es) d _ (f1.newer hdn) upd_same
  have rm : ¬ isRoom (ns.getD s.at_ 0) := fun z => c2 (decide_eq_true (eg ▸ z))
  have es : step ns s = match rdPair s.tb ns s.at_ with
    | .error e => .error e
    | .ok (r, q, t) => .ok ⟨q, s.rooms, s.pairs ++ [r], t⟩ := by
    unfold step
    rw [if_neg rm] <;> rfl
  obtain ⟨dx, hu⟩ := id (U.fr M f1)
  refine ⟨_, rfl, u, dx, _, rfl, hu, unF_no _ (by decide +kernel) (by decide +kernel), _, rfl, _, rfl, u, m, l, _, ns, s.at_, s.tb.kept, s.tb.room, rfl, U.fr M f1, M1, tb1.len, ⟨t, rfl, ht1⟩, hl, lt, ?_⟩
  cases e : rdPair s.tb ns s.at_ with
  | error x =>
    rw [e] at es
    exact Raisd.fr2 f1 (hE x (A1.err lt es))
  | ok z =>
    obtain ⟨pr, q, tb2⟩ := z
    rw [e] at es
    dsimp only at es
    have qq := rdPair_ok e
    intro t2 y H2 f2 M2 h2 ty
    have hls2 := f2 l _ nlm hls
    refine ⟨t2, _, rfl, SqT.of h2, rfl, _, _, rfl, _, _, rfl, rfl, ?_⟩
    refine ⟨_, rfl, .inl ⟨rfl, _, SqL.of hls2⟩, _, rfl, l, _, _, rfl, rfl, hls2, ?_, ?_⟩
    · rw [al.length]
      exact size_lt (by omega)
    have kl : KT H2 (upd H2 l (.lst (ls ++ [y]))) := (Fr.own).kt (nt_lst hls2)
    refine ⟨⟨q, s.rooms, s.pairs ++ [pr], tb2⟩, _, _, qq.1, qq.2, rfl, A1.more lt es, step_tb tb1 es, ?_, upd_same, ?_, M2.at_av hls2, (f1.trans f2).put hl0, fun _ _ => .inl ?_⟩
    · rw [List.length_append, List.length_singleton]
      show _ ≤ q
      omega
    · exact (al.imp fun _ _ x => (x.kt (f2.kt M1.nt)).kt kl).append (.cons (ty.kt kl) .nil)
    · intro z
      exact absurd z (by simp)
end
end BR
/-! BrLaw1: the law's own reading: _law_total, _law_fit, _law_add, _law_read, _law_fixed -/
namespace BR
open PySem PySem.Spec PyProof.Rows L2
/-- a list of pairs stands at l -/
def RowsAt (H : Hp) (l : Addr) (ps : List Pr) : Prop := ∃ ls, H l = some (.lst ls) ∧ All2 (TP H) ls ps
theorem RowsAt.same {H H' : Hp} {l : Addr} {ps : List Pr} (h : RowsAt H l ps) (s : Same H H') : RowsAt H' l ps := by
  obtain ⟨ls, h1, h2⟩ := h
  exact ⟨ls, s _ _ h1, h2.imp fun _ _ x => x.kt s.kt⟩
def spTotal : Sp := fun vs H Q _ => ∃ (l : Addr) (ps : List Pr), vs = [.ref l] ∧ RowsAt H l ps ∧ ps.length ≤ 900000 ∧ ∀ H', Same H H' → Q (.int (total ps)) H'
def spFit : Sp := fun vs H Q _ => ∃ (l : Addr) (ps : List Pr) (r : Int), vs = [.ref l, .int r] ∧ RowsAt H l ps ∧ ps.length ≤ 900000 ∧ ∀ q H', Same H H' → H q = none → RowsAt H' q (fit ps r) → Q (.ref q) H'
def spLAdd : Sp := fun vs H Q _ => ∃ (l : Addr) (ps : List Pr) (r : Int) (v : V) (p : Pr), vs = [.ref l, .int r, v] ∧ RowsAt H l ps ∧ ps.length ≤ 900000 ∧ TP H v p ∧ ∀ q H', Same H H' → H q = none → RowsAt H' q (add ps r p) → Q (.ref q) H'
/-- the law's answer: a tuple (word, index) or (what was read, the index behind it) -/
def LOut {α : Type} (R : Hp → Hp → Prop) (H : Hp) (Q : VK) (x : Except Ft α) (ok : α → Prop) : Prop := match x with
  | .error f => ∀ t H', R H H' → H' t = some (.tup [.str (wS f.1), .int (f.2 : Int)]) → Q (.ref t) H'
  | .ok a => ok a
def spRead : Sp := fun vs H Q _ => ∃ (a : Addr) (ns : List Int) (p n : Nat), vs = [.ref a, .int (p : Int), .int (n : Int)] ∧ H a = some (.lst (ns.map V.int)) ∧ ns.length ≤ 100000 ∧ n ≤ 8 ∧
  LOut Same H Q (rdInt ns p n) fun z => ∀ t H', Same H H' → H' t = some (.tup [.int z.1, .int (z.2 : Int)]) → Q (.ref t) H'
def spLFixed : Sp := fun vs H Q _ => vs = [] ∧ ∀ l H', Same H H' → H l = none → RowsAt H' l fixedL → Q (.ref l) H'
/-! the rows as texts -/
abbrev sp5 : List (Str × Str) := [(":method", "GET"), (":method", "PUT"), (":method", "POST"), (":path", "/"), (":scheme", "http")]
abbrev sp4 : List (Str × Str) := [(":authority", ""), (":status", "200"), (":status", "304"), (":status", "404")]
def sp14 : List Str := ["accept", "accept-language", "age", "cache-control", "content-length", "content-type", "date", "etag", "host", "if-none-match", "last-modified", "location", "range", "vary"]
def spAll : List (Str × Str) := sp5 ++ sp4 ++ sp14.map fun x => (x, ("" : Str))
theorem sp_split : Txt.split (("accept accept-language age cache-control content-length content-type date etag host if-none-match " : Str) ++ ("last-modified location range vary" : Str)) (" " : Str) = sp14 := by decide +kernel
theorem sp_octs : spAll.map (fun p => (octs p.1, octs p.2)) = fixedL := by decide +kernel
theorem sp_small : ∀ p ∈ spAll, p.1.cps.size ≤ 1000 ∧ p.2.cps.size ≤ 1000 := by decide +kernel
theorem sp_len : spAll.length = 23 := by decide +kernel
/-- a tuple of two texts -/
def TS2 (H : Hp) (v : V) (p : Str × Str) : Prop := ∃ t, v = .ref t ∧ H t = some (.tup [.str p.1, .str p.2])
theorem TS2.kt {H H' : Hp} {v : V} {p : Str × Str} (h : TS2 H v p) (k : KT H H') : TS2 H' v p := by
  obtain ⟨t, e, h⟩ := h
  exact ⟨t, e, k _ _ h⟩
def tRow2 (p : Str × Str) : TE := tTup (tCons (tC (.str p.1)) (tCons (tC (.str p.2)) tNil))
def tRows2 : List (Str × Str) → TA
  | [] => tNil
  | p :: r => tCons (tRow2 p) (tRows2 r)
theorem rd_rows2 {σ : L2.St} : ∀ {rows : List (Str × Str)} {H : Hp} {Q : List V → Hp → Prop}, (∀ vs H', Same H H' → All2 (TS2 H') vs rows → Q vs H') → tRows2 rows σ H Q
  | [], H, Q, h => h [] H (Same.refl H) .nil
  | p :: r, H, Q, h => by
    refine ⟨by show 2 ≤ sizeLine; decide, fun t ht => ?_⟩
    refine rd_rows2 (rows := r) fun vs H' s a => ?_
    exact h _ H' ((Same.nw ht).trans s) (.cons ⟨t, rfl, s _ _ upd_same⟩ a)
theorem shl1 (n : Nat) : (1 : Int) * 2 ^ ((n : Nat) : Int).toNat - 1 = 2 ^ n - 1 := by rw [Int.toNat_natCast, Int.one_mul]
section
variable {P : Program} {w : World} {K : PySem.W.Frag} {mg : Str → Option Value} {base : Heap} {mt un hC hI hL hD aM aC aF : Addr}
theorem sc__law_total : FnScope ["_law_kept", "_law_row"] ["_law_kept"] (defScope sTotal) := ⟨rfl, rfl, rfl, by decide +kernel, rfl, by decide +kernel, by decide +kernel⟩
theorem ok_total {f : Addr} {fd : FuncData} (F : FnP K "_law_total" "_law_total" sTotal f fd) (T : Tx K mg mt un hC hI hL hD aM aC aF) : FnOk P w K mg base CX0 1 f fd ["_law_kept"] spTotal := by
  refine ok0 F sc__law_total (fun vs H Q E h => ?_) (fun cdv A outer s H vs Q E hr h => ?_)
  · obtain ⟨l, ps, rfl, _⟩ := h
    rfl
  obtain ⟨l, ps, rfl, ⟨ls, h1, h2⟩, hl, k⟩ := h
  refine ⟨_, (pss_one (ps_ret (pe_callB (cr_sum rfl) (by rfl) T.sum (by decide +kernel) (pa_cons (pe_lc (own := [(("_law_row" : Str), 1)]) (g := gName 1) (tt := tYes) rfl sc__law_total.nd (pi_list (pv 0)) (blkOk_by (own := [(("_law_row" : Str), 1)]) (N := ["_law_kept", "_law_row"]) (sc := defScope sTotal) (by decide +kernel)) (fun _ _ _ _ _ => pg_name (i := 1) sc__law_total.nd rfl (Or.inl rfl)) (fun _ _ _ _ _ => pts_nil) (fun _ _ _ _ _ => (pe_op op_add (pe_op op_add (pe_callB (call_len_seqK K rfl) (by rfl) T.len (by decide +kernel) (pa_cons (pe_ix (ix_tupK K rfl) (pv 1) pe_int (fun _ _ => rfl)) pa_nil)) (pe_callB (call_len_seqK K rfl) (by rfl) T.len (by decide +kernel) (pa_cons (pe_ix (ix_tupK K rfl) (pv 1) pe_int (fun _ _ => rfl)) pa_nil))) pe_int))) pa_nil)))), ?_⟩
  refine ⟨_, rfl, l, rfl, ⟨_, SqL.of h1⟩, fun D hD => lc_list (K := K) (a := l) (xs := ls) (fun i H' => H' D = some (.lst (((ps.map size).take i).map V.int)) ∧ Same H H') ⟨upd_same, Same.nw hD⟩ (fun i H' _ h => SqL.of (h.2 _ _ h1)) ?_ ?_⟩
  · rintro i y H' hi ⟨hD', s'⟩
    obtain ⟨p, hp, tp⟩ := h2.getL hi
    obtain ⟨t, _, _, rfl, ht, ⟨ta, rfl, hta⟩, ⟨tb, rfl, htb⟩⟩ := tp.kt s'.kt
    refine ⟨rfl, _, rfl, t, _, _, _, rfl, rfl, SqT.of ht, rfl, ta, _, rfl, .inr (SqT.of hta), _, rfl, t, _, _, _, rfl, rfl, SqT.of ht, rfl, tb, _, rfl, .inr (SqT.of htb), _, _, rfl, rfl, _, _, rfl, rfl, ?_⟩
    rw [List.length_map, List.length_map]
    refine ⟨_, hD', ?_, ?_, s'.putN hD⟩
    · rw [List.length_map, List.length_take, List.length_map]
      exact size_lt (by omega)
    · rw [upd_same, List.take_add_one, List.getElem?_map, hp, List.map_append]
      rfl
  · rintro H' ⟨hD', s'⟩
    rw [List.take_of_length_le (by rw [List.length_map, h2.length]; exact Nat.le_refl _)] at hD'
    exact ⟨D, _, rfl, SqL.of hD', k H' s'⟩
theorem sc__law_fit : FnScope ["_law_kept", "_law_room", "_law_count", "_law_k"] ["_law_kept", "_law_room"] (defScope sFit) := ⟨rfl, rfl, rfl, by decide +kernel, rfl, by decide +kernel, by decide +kernel⟩
theorem ok_fit {f : Addr} {fd : FuncData} (F : FnP K "_law_fit" "_law_fit" sFit f fd) (T : Tx K mg mt un hC hI hL hD aM aC aF) (G__law_total : HasF P w K mg base CX0 1 "_law_total" ["_law_kept"] spTotal) : FnOk P w K mg base CX0 2 f fd ["_law_kept", "_law_room"] spFit := by
  refine ok0 F sc__law_fit (fun vs H Q E h => ?_) (fun cdv A outer s H vs Q E hr h => ?_)
  · obtain ⟨l, ps, r, rfl, _⟩ := h
    rfl
  obtain ⟨l, ps, r, rfl, ⟨ls, h1, h2⟩, hl, k⟩ := h
  have el := h2.length
  refine ⟨_, (pss_cons (ps_set (i := 2) sc__law_fit.nd rfl (Or.inl rfl) (pe_callB call_len_seq (by rfl) T.len (by decide +kernel) (pa_cons (pv 0) pa_nil))) (pss_cons (ps_for PassesOwn.never rfl (pi_range1 rfl T.range (pa_cons (pe_callB call_len_seq (by rfl) T.len (by decide +kernel) (pa_cons (pv 0) pa_nil)) pa_nil)) (pg_name (i := 3) sc__law_fit.nd rfl (Or.inl rfl)) (pss_one (ps_if (pt_cmpR op_gt (pe_f G__law_total (hr.mono (by decide)) pass0 (pa_cons (pe_slice sl_list (pv 0) po_none (po_some (pv 2))) pa_nil)) (pv 1) (nomark _)) (pss_one (ps_set (i := 2) sc__law_fit.nd rfl (Or.inl rfl) (pe_op op_sub (pv 2) pe_int))) pss_nil))) (pss_one (ps_ret (pe_slice sl_list (pv 0) po_none (po_some (pv 2))))))), ?_⟩
  refine ⟨_, rfl, l, _, rfl, .inl (SqL.of h1), ?_⟩
  refine ⟨_, rfl, l, _, rfl, .inl (SqL.of h1), _, rfl, by omega, by omega, ?_⟩
  refine for_range (lo := 0) (n := ((ls.length : Int)).toNat) (fun i σ' H' => ∃ (c : Nat) (v : Option V), σ' = [some (.ref l), some (.int r), some (.int (c : Int)), v] ∧ Same H H' ∧ c ≤ ps.length ∧ fitN ps r c = fitN ps r ps.length ∧ (c + i = ps.length ∨ ¬ total (ps.take c) > r))
    ⟨ls.length, none, rfl, Same.refl H, by omega, by rw [el], .inl (by omega)⟩ ?_ ?_
  · rintro i σ' H' hi ⟨c, v, rfl, s', cl, ef, cs⟩
    have h1' := s' _ _ h1
    refine ⟨_, rfl, _, rfl, _, rfl, l, _, rfl, SqL.of h1', fun q hq => ?_⟩
    rw [cut_take]
    refine ⟨q, ps.take c, rfl, ⟨_, upd_same, (h2.take c).imp fun _ _ x => (x.kt s'.kt).kt (Same.nw hq).kt⟩, by rw [List.length_take]; omega, fun H2 s2 => ?_⟩
    have s02 := (s'.nwr hq).trans s2
    refine ⟨_, rfl, _, _, rfl, rfl, _, rfl, ite2 (fun c1 => ?_) (fun c1 => ?_)⟩
    · have c1' : total (ps.take c) > r := of_decide_eq_true c1
      rcases cs with cs | cs
      · obtain ⟨c', rfl⟩ : ∃ c', c = c' + 1 := ⟨c - 1, by omega⟩
        refine ⟨_, rfl, _, _, rfl, rfl, c', some (.int (0 + (i : Int))), ?_, s02, by omega, ?_, .inl (by omega)⟩
        · show _ = [some (V.ref l), some (V.int r), some (V.int (c' : Int)), some (.int (0 + (i : Int)))]
          rw [show ((c' : Nat) : Int) = ((c' + 1 : Nat) : Int) - 1 by omega]
          rfl
        · rw [← ef]
          conv =>
            rhs
            unfold fitN
          rw [if_pos c1']
      · exact (cs c1').elim
    · exact ⟨c, _, rfl, s02, cl, ef, .inr (fun z => c1 (decide_eq_true z))⟩
  · rintro σ' H' ⟨c, v, rfl, s', cl, ef, cs⟩
    have h1' := s' _ _ h1
    refine ⟨_, rfl, _, rfl, _, rfl, l, _, rfl, SqL.of h1', fun q hq => ?_⟩
    rw [cut_take]
    have e : fit ps r = ps.take c := by
      unfold fit
      rw [← ef]
      rcases cs with cs | cs
      · rw [show c = 0 by omega]
        rfl
      · rw [fitN_stop cs]
    refine k q _ (s'.nwr hq) (s'.free hq) ⟨_, upd_same, ?_⟩
    rw [e]
    exact (h2.take c).imp fun _ _ x => (x.kt s'.kt).kt (Same.nw hq).kt
theorem sc__law_add : FnScope ["_law_kept", "_law_room", "_law_pair_here"] ["_law_kept", "_law_room", "_law_pair_here"] (defScope sAdd) := ⟨rfl, rfl, rfl, by decide +kernel, rfl, by decide +kernel, by decide +kernel⟩
theorem ok_add {f : Addr} {fd : FuncData} (F : FnP K "_law_add" "_law_add" sAdd f fd) (T : Tx K mg mt un hC hI hL hD aM aC aF) (G__law_total : HasF P w K mg base CX0 1 "_law_total" ["_law_kept"] spTotal) (G__law_fit : HasF P w K mg base CX0 2 "_law_fit" ["_law_kept", "_law_room"] spFit) :
    FnOk P w K mg base CX0 3 f fd ["_law_kept", "_law_room", "_law_pair_here"] spLAdd := by
  refine ok0 F sc__law_add (fun vs H Q E h => ?_) (fun cdv A outer s H vs Q E hr h => ?_)
  · obtain ⟨l, ps, r, v, p, rfl, _⟩ := h
    rfl
  obtain ⟨l, ps, r, v, p, rfl, R, hl, tp, k⟩ := h
  refine ⟨_, (pss_cons (ps_set (i := 0) sc__law_add.nd rfl (Or.inl rfl) (pe_f G__law_fit (hr.mono (by decide)) pass0 (pa_cons (pv 0) (pa_cons (pe_op op_sub (pv 1) (pe_f G__law_total (hr.mono (by decide)) pass0 (pa_cons (pe_lst (pa_cons (pv 2) pa_nil)) pa_nil))) pa_nil)))) (pss_cons (ps_if (pt_cmpR op_le (pe_f G__law_total (hr.mono (by decide)) pass0 (pa_cons (pe_lst (pa_cons (pv 2) pa_nil)) pa_nil)) (pv 1) (nomark _)) (pss_one (ps_ret (pe_op op_cat (pe_lst (pa_cons (pv 2) pa_nil)) (pv 0)))) pss_nil) (pss_one (ps_ret (pe_lst pa_nil))))), ?_⟩
  have one : total [p] = size p := by rw [total_cons]; exact Int.add_zero _
  refine ⟨_, rfl, _, rfl, _, rfl, by show 1 ≤ sizeLine; decide, fun q1 hq1 => ?_⟩
  have sq1 := Same.nw (o := .lst [v]) hq1
  refine ⟨q1, [p], rfl, ⟨[v], upd_same, .cons (tp.kt sq1.kt) .nil⟩, by show 1 ≤ 900000; decide, fun H2 s2 => ?_⟩
  have s02 := sq1.trans s2
  refine ⟨_, _, rfl, rfl, l, ps, r - total [p], rfl, R.same s02, hl, fun q H3 s3 n3 R3 => ?_⟩
  have s03 := s02.trans s3
  rw [one] at R3
  refine ⟨_, rfl, by show 1 ≤ sizeLine; decide, fun q2 hq2 => ?_⟩
  have sq2 := Same.nw (o := .lst [v]) hq2
  refine ⟨q2, [p], rfl, ⟨[v], upd_same, .cons ((tp.kt s03.kt).kt sq2.kt) .nil⟩, by show 1 ≤ 900000; decide, fun H4 s4 => ?_⟩
  have s04 := (s03.trans sq2).trans s4
  have R4 := R3.same (sq2.trans s4)
  rw [one]
  refine ⟨_, rfl, _, _, rfl, rfl, _, rfl, ite2 (fun c => ?_) (fun c => ?_)⟩
  · have c' : size p ≤ r := of_decide_eq_true c
    obtain ⟨ls, e1, e2⟩ := R4
    refine ⟨_, rfl, by show 1 ≤ sizeLine; decide, fun q3 hq3 => ?_⟩
    have sq3 := Same.nw (o := .lst [v]) hq3
    refine ⟨_, rfl, rd_cat upd_same (sq3 _ _ e1) ?_ fun q5 H5 s5 n5 h5 => ?_⟩
    · have := e2.length
      have : (fit ps (r - size p)).length ≤ ps.length := by
        unfold fit
        rw [List.length_take]
        exact Nat.min_le_right _ _
      show 1 + _ ≤ _
      omega
    have s05 := (s04.trans sq3).trans s5
    refine k q5 H5 s05 ((s04.trans sq3).free n5) ⟨_, h5, ?_⟩
    unfold add
    rw [if_pos c']
    exact .cons (tp.kt s05.kt) (e2.imp fun _ _ x => x.kt (sq3.trans s5).kt)
  · have c' : ¬ size p ≤ r := fun z => c (decide_eq_true z)
    refine ⟨by show 0 ≤ sizeLine; decide, fun q3 hq3 => ?_⟩
    refine k q3 _ (s04.nwr hq3) (s04.free hq3) ⟨[], upd_same, ?_⟩
    unfold add
    rw [if_neg c']
    exact .nil
theorem sc__law_read : FnScope ["_law_octets_here", "_law_at", "_law_n", "_law_full", "_law_value", "_law_k", "_law_octet"] ["_law_octets_here", "_law_at", "_law_n"] (defScope sRead) := ⟨rfl, rfl, rfl, by decide +kernel, rfl, by decide +kernel, by decide +kernel⟩
theorem ok_read {f : Addr} {fd : FuncData} (F : FnP K "_law_read" "_law_read" sRead f fd) (T : Tx K mg mt un hC hI hL hD aM aC aF) : FnOk P w K mg base CX0 1 f fd ["_law_octets_here", "_law_at", "_law_n"] spRead := by
  refine ok0 F sc__law_read (fun vs H Q E h => ?_) (fun cdv A outer s H vs Q E hr h => ?_)
  · obtain ⟨a, ns, p, n, rfl, _⟩ := h
    rfl
  obtain ⟨a, ns, p, n, rfl, ha, hl, hn8, ho⟩ := h
  refine ⟨_, (pss_cons (ps_if (pt_cmpR op_ge (pv 1) (pe_callB call_len_seq (by rfl) T.len (by decide +kernel) (pa_cons (pv 0) pa_nil)) (nomark _)) (pss_one (ps_ret (pe_tup (pa_cons pe_str (pa_cons (pe_callB call_len_seq (by rfl) T.len (by decide +kernel) (pa_cons (pv 0) pa_nil)) pa_nil))))) pss_nil) (pss_cons (ps_set (i := 3) sc__law_read.nd rfl (Or.inl rfl) (pe_op op_sub (pe_op op_shl pe_int (pv 2)) pe_int)) (pss_cons (ps_set (i := 4) sc__law_read.nd rfl (Or.inl rfl) (pe_op op_andM (pe_ix ix_list (pv 0) (pv 1) (fun _ _ => rfl)) (pv 3))) (pss_cons (ps_if (pt_cmpR op_lt (pv 4) (pv 3) (nomark _)) (pss_one (ps_ret (pe_tup (pa_cons (pv 4) (pa_cons (pe_op op_add (pv 1) pe_int) pa_nil))))) pss_nil) (pss_cons (ps_for PassesOwn.never rfl (pi_range1 rfl T.range (pa_cons pe_int pa_nil)) (pg_name (i := 5) sc__law_read.nd rfl (Or.inl rfl)) (pss_cons (ps_if (pt_cmpR op_ge (pe_op op_add (pe_op op_add (pv 1) pe_int) (pv 5)) (pe_callB call_len_seq (by rfl) T.len (by decide +kernel) (pa_cons (pv 0) pa_nil)) (nomark _)) (pss_one (ps_ret (pe_tup (pa_cons pe_str (pa_cons (pe_callB call_len_seq (by rfl) T.len (by decide +kernel) (pa_cons (pv 0) pa_nil)) pa_nil))))) pss_nil) (pss_cons (ps_set (i := 6) sc__law_read.nd rfl (Or.inl rfl) (pe_ix ix_list (pv 0) (pe_op op_add (pe_op op_add (pv 1) pe_int) (pv 5)) (fun _ _ => rfl))) (pss_cons (ps_set (i := 4) sc__law_read.nd rfl (Or.inl rfl) (pe_op op_add (pv 4) (pe_op op_shl (pe_op op_andM (pv 6) pe_int) (pe_op op_mul pe_int (pv 5))))) (pss_cons (ps_if (pt_cmpR op_gt (pv 4) (pe_op op_sub (pe_op op_pow pe_int pe_int) pe_int) (nomark _)) (pss_one (ps_ret (pe_tup (pa_cons pe_str (pa_cons (pv 1) pa_nil))))) pss_nil) (pss_one (ps_if (pt_cmpR op_lt (pv 6) pe_int (nomark _)) (pss_one (ps_ret (pe_tup (pa_cons (pv 4) (pa_cons (pe_op op_add (pe_op op_add (pv 1) pe_int) (pv 5)) pa_nil))))) pss_nil))))))) (pss_one (ps_ret (pe_tup (pa_cons pe_str (pa_cons (pv 1) pa_nil)))))))))), ?_⟩
  refine ⟨_, rfl, _, rfl, a, _, rfl, .inl (SqL.of ha), _, _, rfl, rfl, _, rfl, ?_⟩
  rw [List.length_map]
  unfold rdInt at ho
  refine ite2 (fun c => ?_) (fun c => ?_)
  · have c' : (ns.length : Int) ≤ (p : Int) := of_decide_eq_true c
    rw [List.getElem?_eq_none (by omega)] at ho
    refine ⟨_, rfl, a, _, rfl, .inl (SqL.of ha), by show 2 ≤ sizeLine; decide, fun q hq => ?_⟩
    rw [List.length_map]
    exact ho q _ (Same.nw hq) upd_same
  have c' : ¬ (ns.length : Int) ≤ (p : Int) := fun z => c (decide_eq_true z)
  have hlt : p < ns.length := by omega
  obtain ⟨o, ep⟩ : ∃ o, ns[p]? = some o := ⟨_, List.getElem?_eq_getElem hlt⟩
  rw [ep] at ho
  dsimp only at ho
  refine ⟨_, rfl, _, _, rfl, rfl, ⟨by omega, by omega, by decide⟩, _, _, rfl, rfl, ?_⟩
  refine ⟨_, rfl, _, rfl, a, _, _, _, rfl, rfl, SqL.of ha, atI_nat (at_map ep), _, rfl, o, n, rfl, congrArg V.int (shl1 n), ?_⟩
  refine ⟨_, rfl, _, rfl, _, _, rfl, rfl, _, rfl, ?_⟩
  refine ite2 (fun c2 => ?_) (fun c2 => ?_)
  · have c2' : o % 2 ^ n < 2 ^ n - 1 := by
      have := of_decide_eq_true c2
      rwa [shl1] at this
    rw [if_pos c2'] at ho
    refine ⟨_, rfl, _, rfl, _, _, rfl, rfl, by show 2 ≤ sizeLine; decide, fun q hq => ?_⟩
    exact ho q _ (Same.nw hq) upd_same
  have c2' : ¬ o % 2 ^ n < 2 ^ n - 1 := fun z => c2 (decide_eq_true (by rw [shl1]; exact z))
  rw [if_neg c2'] at ho
  refine ⟨_, rfl, by decide, by decide, for_range (lo := 0) (n := 5) (fun i σ' H' => H = H' ∧ ∃ (u : Int) (b c : Option V), σ' = [some (.ref a), some (.int (p : Int)), some (.int (n : Int)), some (.int (1 * 2 ^ ((n : Nat) : Int).toNat - 1)), some (.int u), b, c] ∧ rdGo ns p 5 0 (o % 2 ^ n) = rdGo ns p (5 - i) i u)
    ⟨rfl, o % 2 ^ n, none, none, rfl, rfl⟩ ?_ ?_⟩
  · rintro i σ' H' hi ⟨rfl, u, b, c, rfl, hg⟩
    rw [show 5 - i = (5 - (i + 1)) + 1 by omega] at hg
    conv at hg =>
      rhs
      unfold rdGo
    refine ⟨_, rfl, _, _, rfl, rfl, _, rfl, _, _, rfl, rfl, ?_⟩
    refine ⟨_, rfl, a, _, rfl, .inl (SqL.of ha), _, _, rfl, rfl, _, rfl, ?_⟩
    rw [List.length_map]
    refine ite2 (fun c3 => ?_) (fun c3 => ?_)
    · have c3' : (ns.length : Int) ≤ (p : Int) + 1 + (0 + (i : Int)) := of_decide_eq_true c3
      rw [List.getElem?_eq_none (show ns.length ≤ p + 1 + i by omega)] at hg
      rw [hg] at ho
      refine ⟨_, rfl, a, _, rfl, .inl (SqL.of ha), by show 2 ≤ sizeLine; decide, fun q hq => ?_⟩
      rw [List.length_map]
      exact ho q _ (Same.nw hq) upd_same
    have c3' : ¬ (ns.length : Int) ≤ (p : Int) + 1 + (0 + (i : Int)) := fun z => c3 (decide_eq_true z)
    have hlt2 : p + 1 + i < ns.length := by omega
    obtain ⟨o2, ep2⟩ : ∃ o2, ns[p + 1 + i]? = some o2 := ⟨_, List.getElem?_eq_getElem hlt2⟩
    rw [ep2] at hg
    dsimp only at hg
    have eat : atI (ns.map V.int) ((p : Int) + 1 + (0 + (i : Int))) = some (.int o2) := atI_int (by rw [show ((p : Int) + 1 + (0 + (i : Int))).toNat = p + 1 + i by omega]; exact at_map ep2) (by omega)
    have m0 := Int.emod_nonneg o2 (show (2 : Int) ^ 7 ≠ 0 by decide)
    have m1 : o2 % 2 ^ 7 < 128 := Int.emod_lt_of_pos o2 (show (0 : Int) < 2 ^ 7 by decide)
    refine ⟨_, rfl, _, rfl, _, _, rfl, rfl, _, rfl, _, _, rfl, rfl, a, _, _, _, rfl, rfl, SqL.of ha, eat, ?_⟩
    refine ⟨_, rfl, _, rfl, o2, 7, rfl, rfl, _, rfl, _, _, rfl, rfl, .inl ⟨by decide, by decide⟩, _, _, rfl, rfl, ⟨by omega, by omega, by omega⟩, _, _, rfl, rfl, ?_⟩
    refine ⟨_, rfl, _, _, rfl, rfl, ⟨by decide, by decide, by decide⟩, _, _, rfl, rfl, _, _, rfl, rfl, _, rfl, ?_⟩
    refine ite2 (fun c4 => ?_) (fun c4 => ?_)
    · have c4' : u + dg o2 i > 2147483647 := of_decide_eq_true c4
      rw [if_pos c4'] at hg
      rw [hg] at ho
      exact ⟨_, rfl, by show 2 ≤ sizeLine; decide, fun q hq => ho q _ (Same.nw hq) upd_same⟩
    have c4' : ¬ u + dg o2 i > 2147483647 := fun z => c4 (decide_eq_true z)
    rw [if_neg c4'] at hg
    refine ⟨_, rfl, _, _, rfl, rfl, _, rfl, ?_⟩
    refine ite2 (fun c5 => ?_) (fun c5 => ?_)
    · have c5' : o2 < 128 := of_decide_eq_true c5
      rw [if_pos c5'] at hg
      rw [hg] at ho
      refine ⟨_, rfl, _, rfl, _, _, rfl, rfl, _, rfl, _, _, rfl, rfl, by show 2 ≤ sizeLine; decide, fun q hq => ?_⟩
      refine ho q _ (Same.nw hq) ?_
      rw [upd_same]
      show some (HO.tup [V.int (u + dg o2 i), V.int ((p : Int) + 2 + (0 + (i : Int)))]) = some (HO.tup [V.int (u + dg o2 i), V.int ((p + 2 + i : Nat) : Int)])
      rw [show ((p + 2 + i : Nat) : Int) = (p : Int) + 2 + (0 + (i : Int)) by omega]
    · have c5' : ¬ o2 < 128 := fun z => c5 (decide_eq_true z)
      rw [if_neg c5'] at hg
      exact ⟨rfl, u + dg o2 i, _, _, rfl, hg⟩
  · rintro σ' H' ⟨rfl, u, b, c, rfl, hg⟩
    rw [hg] at ho
    exact ⟨_, rfl, by show 2 ≤ sizeLine; decide, fun q hq => ho q _ (Same.nw hq) upd_same⟩
end
end BR
/-! BrLaw2: _law_fixed, _law_decoded -/
namespace BR
open PySem PySem.Spec PyProof.Rows L2
theorem spAll_at {i : Nat} {p : Str × Str} (h : spAll[i]? = some p) : fixedL[i]? = some (octs p.1, octs p.2) ∧ p.1.cps.size ≤ 1000 ∧ p.2.cps.size ≤ 1000 := by
  refine ⟨?_, sp_small p (List.mem_of_getElem? h)⟩
  rw [← sp_octs, List.getElem?_map, h]
  rfl
/-- the key of a word -/
abbrev wk (n l : Int) : List Key := [.inl n, .inl l]
/-- the law's dict, filled up to i -/
def Filled (kvs : List (List Key × V)) (i : Nat) : Prop := ∀ (n : Int) (l : Nat), valV kvs (wk n (l : Int)) = if 0 ≤ look n l ∧ look n l < (i : Int) then some (.int (look n l)) else none
theorem Filled.zero : Filled [] 0 := fun n l => by
  rw [if_neg (by omega)]
  rfl
theorem Filled.more {kvs : List (List Key × V)} {i : Nat} {n0 : Int} {l0 : Nat} (h : Filled kvs i) (e : wordsL[i]? = some (n0, (l0 : Int))) : Filled (putK kvs (wk n0 (l0 : Int)) (.int (i : Int))) (i + 1) := fun n l => by
  have hl := words_of e
  rw [valV_put]
  by_cases c : wk n (l : Int) = wk n0 (l0 : Int)
  · rw [if_pos c]
    injection c with c1 c2
    injection c2 with c2
    injection c1 with c1
    injection c2 with c2
    have c3 : l = l0 := by omega
    subst c1 c3
    rw [hl, if_pos (by omega)]
  · rw [if_neg c, h n l]
    by_cases d : 0 ≤ look n l ∧ look n l < (i : Int)
    · rw [if_pos d, if_pos (by omega)]
    · rw [if_neg d]
      by_cases d2 : look n l = (i : Int)
      · have q := look_words (n := n) (l := l) (by omega)
        rw [show (look n l).toNat = i by omega, e] at q
        injection q with q
        injection q with q1 q2
        exact absurd (by rw [q1, q2]) c
      · rw [if_neg (by omega)]
theorem Filled.all {kvs : List (List Key × V)} (h : Filled kvs 257) (n : Int) (l : Nat) : valV kvs (wk n (l : Int)) = if 0 ≤ look n l then some (.int (look n l)) else none := by
  rw [h n l]
  by_cases c : 0 ≤ look n l
  · have q := (List.getElem?_eq_some_iff.mp (look_words c)).1
    rw [words_len] at q
    rw [if_pos c, if_pos (by omega)]
  · rw [if_neg c, if_neg (by omega)]
/-- a display of rows, and a row behind it -/
theorem seq_rows {rest : TS} {t : TA} {i : Nat} {D : Ends} {σ : L2.St} {H : Hp} (rows : List (Str × Str)) (e : t = tRows2 rows) (hl : rows.length ≤ 100) (h : ∀ l H', Same H H' → (∃ vs, H' l = some (.lst vs) ∧ All2 (TS2 H') vs rows) → rest D (σ.set i (some (.ref l))) H') :
    tSeq (tAsg (tLst t) (gName i)) rest D σ H := by
  subst e
  refine rd_rows2 fun v H1 s1 a1 => ⟨by rw [a1.length]; exact size_ok (by omega), fun l n => ?_⟩
  exact h l _ (s1.nwr n) ⟨v, upd_same, a1.imp fun _ _ x => x.kt (Same.nw n).kt⟩
theorem seq_cat {rest : TS} {t : TA} {i j : Nat} {D : Ends} {σ : L2.St} {H : Hp} {a : Addr} {r1 : List (Str × Str)} (rows : List (Str × Str)) (e : t = tRows2 rows) (hl : rows.length ≤ 100) (hl1 : r1.length ≤ 100) (hj : σ[j]? = some (some (.ref a))) (ha : ∃ vs, H a = some (.lst vs) ∧ All2 (TS2 H) vs r1)
    (h : ∀ l H', Same H H' → (∃ vs, H' l = some (.lst vs) ∧ All2 (TS2 H') vs (r1 ++ rows)) → rest D (σ.set i (some (.ref l))) H') :
    tSeq (tAsg (tOp rCat (tVar j) (tLst t)) (gName i)) rest D σ H := by
  subst e
  obtain ⟨va, e1, e2⟩ := ha
  refine ⟨_, hj, rd_rows2 fun v H1 s1 a1 => ⟨by rw [a1.length]; exact size_ok (by omega), fun l n => ?_⟩⟩
  refine rd_cat ((s1.nwr n) _ _ e1) upd_same (by rw [a1.length, e2.length]; omega) fun p H2 s2 n2 e3 => ?_
  have s02 := (s1.nwr n).trans s2
  exact h p H2 s02 ⟨_, e3, (e2.imp fun _ _ x => x.kt s02.kt).append (a1.imp fun _ _ x => x.kt ((Same.nw n).trans s2).kt)⟩
def spLDecoded : Sp := fun vs H Q _ => ∃ (a l : Addr) (ns : List Int), vs = [.ref a, .ref l] ∧ H a = some (.lst (ns.map V.int)) ∧ ns.length ≤ 100000 ∧ WordsAt H l ∧
  (decode ns = none → ∀ p H', Same H H' → H' p = some (.tup []) → Q (.ref p) H') ∧ (∀ r, decode ns = some r → ∀ p H', Same H H' → H' p = some (.lst (r.map V.int)) → Q (.ref p) H')
section
variable {P : Program} {w : World} {K : PySem.W.Frag} {mg : Str → Option Value} {base : Heap} {mt un hC hI hL hD aM aC aF : Addr}
theorem sc__law_fixed : FnScope ["_law_rows", "_law_words_here", "_law_row", "_law_word"] [] (defScope sLFixed) := ⟨rfl, rfl, rfl, by decide +kernel, rfl, by decide +kernel, by decide +kernel⟩
theorem ok_lfixed {f : Addr} {fd : FuncData} (F : FnP K "_law_fixed" "_law_fixed" sLFixed f fd) (T : Tx K mg mt un hC hI hL hD aM aC aF) (G__law_octets : HasF P w K mg base CX0 1 "_law_octets" ["_law_text"] spOctets) : FnOk P w K mg base CX0 2 f fd [] spLFixed := by
  refine ok0 F sc__law_fixed (fun vs H Q E h => ?_) (fun cdv A outer s H vs Q E hr h => ?_)
  · obtain ⟨rfl, _⟩ := h
    rfl
  obtain ⟨rfl, k⟩ := h
  refine ⟨_, (pss_cons (ps_set (i := 0) sc__law_fixed.nd rfl (Or.inl rfl) (pe_lst (pa_cons (pe_tup (pa_cons pe_str (pa_cons pe_str pa_nil))) (pa_cons (pe_tup (pa_cons pe_str (pa_cons pe_str pa_nil))) (pa_cons (pe_tup (pa_cons pe_str (pa_cons pe_str pa_nil))) (pa_cons (pe_tup (pa_cons pe_str (pa_cons pe_str pa_nil))) (pa_cons (pe_tup (pa_cons pe_str (pa_cons pe_str pa_nil))) pa_nil))))))) (pss_cons (ps_set (i := 0) sc__law_fixed.nd rfl (Or.inl rfl) (pe_op op_cat (pv 0) (pe_lst (pa_cons (pe_tup (pa_cons pe_str (pa_cons pe_str pa_nil))) (pa_cons (pe_tup (pa_cons pe_str (pa_cons pe_str pa_nil))) (pa_cons (pe_tup (pa_cons pe_str (pa_cons pe_str pa_nil))) (pa_cons (pe_tup (pa_cons pe_str (pa_cons pe_str pa_nil))) pa_nil))))))) (pss_cons (ps_set (i := 1) sc__law_fixed.nd rfl (Or.inl rfl) pe_str) (pss_cons (ps_set (i := 1) sc__law_fixed.nd rfl (Or.inl rfl) (pe_op op_add_str (pv 1) pe_str)) (pss_cons (ps_set (i := 0) sc__law_fixed.nd rfl (Or.inl rfl) (pe_op op_cat (pv 0) (pe_lc (own := [(("_law_word" : Str), 3)]) (g := gName 3) (tt := tYes) rfl sc__law_fixed.nd (pi_list (pe_split (pv 1) pe_str)) (blkOk_by (own := [(("_law_word" : Str), 3)]) (N := ["_law_rows", "_law_words_here", "_law_row", "_law_word"]) (sc := defScope sLFixed) (by decide +kernel)) (fun _ _ _ _ _ => pg_name (i := 3) sc__law_fixed.nd rfl (Or.inl rfl)) (fun _ _ _ _ _ => pts_nil) (fun _ _ _ _ _ => (pe_tup (pa_cons (pv 3) (pa_cons pe_str pa_nil))))))) (pss_one (ps_ret (pe_lc (own := [(("_law_row" : Str), 2)]) (g := gName 2) (tt := tYes) rfl sc__law_fixed.nd (pi_list (pv 0)) (blkOk_by (own := [(("_law_row" : Str), 2)]) (N := ["_law_rows", "_law_words_here", "_law_row", "_law_word"]) (sc := defScope sLFixed) (by decide +kernel)) (fun _ _ _ _ _ => pg_name (i := 2) sc__law_fixed.nd rfl (Or.inl rfl)) (fun _ _ _ _ _ => pts_nil) (fun _ _ _ _ _ => (pe_tup (pa_cons (pe_f G__law_octets (hr.mono (by decide)) pass0 (pa_cons (pe_ix (ix_tupK K rfl) (pv 2) pe_int (fun _ _ => rfl)) pa_nil)) (pa_cons (pe_f G__law_octets (hr.mono (by decide)) pass0 (pa_cons (pe_ix (ix_tupK K rfl) (pv 2) pe_int (fun _ _ => rfl)) pa_nil)) pa_nil)))))))))))), ?_⟩
  refine seq_rows sp5 rfl (by decide) fun l1 H1 s1 R1 => ?_
  refine seq_cat sp4 rfl (by decide) (by decide) rfl R1 fun l2 H2 s2 R2 => ?_
  refine ⟨_, rfl, _, _, rfl, rfl, by decide +kernel, ?_⟩
  obtain ⟨v2, e2, a2⟩ := R2
  refine ⟨_, rfl, _, rfl, ⟨_, rfl⟩, _, _, rfl, rfl, by decide +kernel, by decide +kernel, ?_⟩
  rw [sp_split]
  refine fun q hq => ⟨q, rfl, ⟨_, SqL.of upd_same⟩, fun D hD => lc_list (K := K) (a := q) (xs := sp14.map V.str) (fun i H' => (∃ vs, H' D = some (.lst vs) ∧ All2 (TS2 H') vs ((sp14.take i).map fun x => (x, ("" : Str)))) ∧ Same (upd H2 q (.lst (sp14.map V.str))) H') ⟨⟨[], upd_same, .nil⟩, Same.nw hD⟩ (fun i H' _ h => SqL.of (h.2 _ _ upd_same)) ?_ ?_⟩
  · rintro i y H' hi ⟨⟨vs, h1, h2⟩, s'⟩
    obtain ⟨x, hx, rfl⟩ : ∃ x, sp14[i]? = some x ∧ y = .str x := by
      rw [List.getElem?_map] at hi
      cases e : sp14[i]? with
      | none =>
        rw [e] at hi
        cases hi
      | some x =>
        rw [e] at hi
        cases hi
        exact ⟨x, rfl, rfl⟩
    have li : i < 14 := (List.getElem?_eq_some_iff.mp hx).1
    refine ⟨rfl, _, rfl, by show 2 ≤ sizeLine; decide, fun t ht => ?_⟩
    have nDt : D ≠ t := ne_of_none h1 ht
    refine ⟨vs, (upd_ne nDt).trans h1, ?_, ⟨_, upd_same, ?_⟩, (s'.nwr ht).putN hD⟩
    · rw [h2.length, List.length_map, List.length_take]
      exact size_lt (by omega)
    · rw [List.take_add_one, hx, List.map_append]
      have kt : KT H' (upd (upd H' t (.tup [.str x, .str ""])) D (.lst (vs ++ [.ref t]))) := (Same.nw ht).kt.trans ((Fr.own).kt (nt_lst ((upd_ne nDt).trans h1)))
      exact (h2.imp fun _ _ z => z.kt kt).append (.cons ⟨t, rfl, by rw [upd_ne (Ne.symm nDt), upd_same]⟩ .nil)
  rintro H3 ⟨⟨v3, e3, a3⟩, s3⟩
  rw [List.length_map, List.take_length] at a3
  have s23 := (Same.nw hq).trans s3
  refine rd_cat (s23 _ _ e2) e3 (by rw [a2.length, a3.length]; decide) fun l4 H4 s4 n4 e4 => ?_
  have a4 : All2 (TS2 H4) (v2 ++ v3) spAll := (a2.imp fun _ _ x => x.kt (s23.trans s4).kt).append (a3.imp fun _ _ x => x.kt s4.kt)
  refine ⟨_, rfl, l4, rfl, ⟨_, SqL.of e4⟩, fun D hD => lc_list (K := K) (a := l4) (xs := v2 ++ v3) (fun i H' => (∃ vs, H' D = some (.lst vs) ∧ All2 (TP H') vs (fixedL.take i)) ∧ Same H4 H') ⟨⟨[], upd_same, .nil⟩, Same.nw hD⟩ (fun i H' _ h => SqL.of (h.2 _ _ e4)) ?_ ?_⟩
  · rintro i y H' hi ⟨⟨vs, h1, h2⟩, s'⟩
    obtain ⟨x, hx, tx⟩ := a4.getL hi
    obtain ⟨t, rfl, ht⟩ := tx.kt s'.kt
    obtain ⟨ef, z1, z2⟩ := spAll_at hx
    have li : i < 23 := by
      have := (List.getElem?_eq_some_iff.mp hx).1
      rwa [sp_len] at this
    refine ⟨rfl, _, rfl, t, _, _, _, rfl, rfl, SqT.of ht, rfl, x.1, rfl, z1, fun w1 H5 s5 t5 => ?_⟩
    refine ⟨_, rfl, t, _, _, _, rfl, rfl, SqT.of (s5 _ _ ht), rfl, x.2, rfl, z2, fun w2 H6 s6 t6 => ?_⟩
    refine ⟨by show 2 ≤ sizeLine; decide, fun g hg => ?_⟩
    have s56 := s5.trans s6
    have h1' := s56 _ _ h1
    have nDg : D ≠ g := ne_of_none h1' hg
    refine ⟨vs, (upd_ne nDg).trans h1', ?_, ⟨_, upd_same, ?_⟩, ((s'.trans s56).nwr hg).putN hD⟩
    · rw [h2.length, List.length_take]
      exact size_lt (by omega)
    · rw [List.take_add_one, ef]
      have kt6 : KT H6 (upd (upd H6 g (.tup [w1, w2])) D (.lst (vs ++ [.ref g]))) := (Same.nw hg).kt.trans ((Fr.own).kt (nt_lst ((upd_ne nDg).trans h1')))
      exact (h2.imp fun _ _ z => (z.kt s56.kt).kt kt6).append (.cons ⟨g, w1, w2, rfl, by rw [upd_ne (Ne.symm nDg), upd_same], (t5.kt s6.kt).kt kt6, t6.kt kt6⟩ .nil)
  · rintro H5 ⟨⟨vs, h1, h2⟩, s5⟩
    rw [a4.length, sp_len, show (23 : Nat) = fixedL.length from fixed_len.symm, List.take_length] at h2
    have s0 : Same H H4 := ((s1.trans s2).trans s23).trans s4
    exact k D H5 (s0.trans s5) (s0.free hD) ⟨vs, h1, h2⟩
theorem sc__law_decoded : FnScope ["_law_octets_here", "_law_words_here", "_law_table", "_law_octet", "_law_found", "_law_number", "_law_length", "_law_k"] ["_law_octets_here", "_law_words_here"] (defScope sLDecoded) := ⟨rfl, rfl, rfl, by decide +kernel, rfl, by decide +kernel, by decide +kernel⟩
theorem ok_ldecoded {f : Addr} {fd : FuncData} (F : FnP K "_law_decoded" "_law_decoded" sLDecoded f fd) (T : Tx K mg mt un hC hI hL hD aM aC aF) : FnOk P w K mg base CX0 1 f fd ["_law_octets_here", "_law_words_here"] spLDecoded := by
  refine ok0 F sc__law_decoded (fun vs H Q E h => ?_) (fun cdv A outer s H vs Q E hr h => ?_)
  · obtain ⟨a, l, ns, rfl, _⟩ := h
    rfl
  obtain ⟨a, l, ns, rfl, ha, hl, ⟨ws, w1, w2⟩, kE, kQ⟩ := h
  have hu := Nat.lt_of_le_of_lt (Nat.add_le_add_left (show 1 ≤ 64 by decide) _) hr.units
  refine ⟨_, (pss_cons (ps_set (i := 2) sc__law_decoded.nd rfl (Or.inl rfl) pe_dnewT) (pss_cons (ps_for PassesOwn.never rfl (pi_range1 rfl T.range (pa_cons pe_int pa_nil)) (pg_name (i := 3) sc__law_decoded.nd rfl (Or.inl rfl)) (pss_one (ps_dput hu (pv 2) (pe_ix ix_list (pv 1) (pv 3) (fun _ _ => rfl)) (pv 3) rfl))) (pss_cons (ps_set (i := 4) sc__law_decoded.nd rfl (Or.inl rfl) (pe_lst pa_nil)) (pss_cons (ps_set (i := 5) sc__law_decoded.nd rfl (Or.inl rfl) pe_int) (pss_cons (ps_set (i := 6) sc__law_decoded.nd rfl (Or.inl rfl) pe_int) (pss_cons (ps_for PassesOwn.never rfl (pi_list (pv 0)) (pg_name (i := 3) sc__law_decoded.nd rfl (Or.inl rfl)) (pss_one (ps_for PassesOwn.never rfl (pi_range1 rfl T.range (pa_cons pe_int pa_nil)) (pg_name (i := 7) sc__law_decoded.nd rfl (Or.inl rfl)) (pss_cons (ps_set (i := 5) sc__law_decoded.nd rfl (Or.inl rfl) (pe_op op_add (pe_op op_mul (pv 5) pe_int) (pe_op op_andM (pe_op op_shr (pv 3) (pe_op op_sub pe_int (pv 7))) pe_int))) (pss_cons (ps_set (i := 6) sc__law_decoded.nd rfl (Or.inl rfl) (pe_op op_add (pv 6) pe_int)) (pss_one (ps_if (pt_cmp (pc_din hu (pe_tup (pa_cons (pv 5) (pa_cons (pv 6) pa_nil))) (pv 2))) (pss_cons (ps_if (pt_cmpR op_eq (pe_dget hu (pv 2) (pe_tup (pa_cons (pv 5) (pa_cons (pv 6) pa_nil))) (fun _ _ => rfl)) pe_int (nomark _)) (pss_one (ps_ret (pe_tup pa_nil))) pss_nil) (pss_cons (ps_expr (pe_bm PySem.F.plainAttrs_list PySem.F.slot_list_append PySem.F.type_list_append mt_append (pv 4) (pa_cons (pe_dget hu (pv 2) (pe_tup (pa_cons (pv 5) (pa_cons (pv 6) pa_nil))) (fun _ _ => rfl)) pa_nil))) (pss_cons (ps_set (i := 5) sc__law_decoded.nd rfl (Or.inl rfl) pe_int) (pss_one (ps_set (i := 6) sc__law_decoded.nd rfl (Or.inl rfl) pe_int))))) pss_nil))))))) (pss_cons (ps_if (PW.pt (pw_or (pt_cmpR op_gt (pv 6) pe_int (nomark _)) (pw_or1 (pt_cmpR op_ne (pv 5) (pe_op op_sub (pe_op op_shl pe_int (pv 6)) pe_int) (nomark _))))) (pss_one (ps_ret (pe_tup pa_nil))) pss_nil) (pss_one (ps_ret (pv 4)))))))))), ?_⟩
  refine fun T hT => ?_
  refine ⟨_, rfl, by decide, by decide, for_range (lo := 0) (n := 257) (fun i σ' H' => ∃ (kvs : List (List Key × V)) (v : Option V), σ' = [some (.ref a), some (.ref l), some (.ref T), v, none, none, none, none] ∧ H' T = some (.dT kvs) ∧ kvs.length ≤ i ∧ Filled kvs i ∧ Same H H') ⟨[], none, rfl, upd_same, Nat.le_refl _, Filled.zero, Same.nw hT⟩ ?_ ?_⟩
  · rintro i σ' H' hi ⟨kvs, v, rfl, hK, lk, fl, s'⟩
    obtain ⟨⟨n0, l0⟩, ew⟩ : ∃ p, wordsL[i]? = some p := ⟨_, List.getElem?_eq_getElem (show i < wordsL.length by rw [words_len]; exact hi)⟩
    have lp : 0 < l0 := by
      have q := (words_look i hi).2.1
      rw [List.getD_eq_getElem?_getD, ew] at q
      exact q
    obtain ⟨m, rfl⟩ := Int.eq_ofNat_of_zero_le (Int.le_of_lt lp)
    obtain ⟨v, hv, ⟨b, rfl, hb⟩⟩ := w2.get ew
    have ei : (0 : Int) + (i : Int) = (i : Int) := Int.zero_add _
    refine ⟨_, rfl, _, rfl, _, rfl, _, rfl, l, ws, _, _, rfl, rfl, SqL.of (s' _ _ w1), atI_int (by rw [ei]; exact hv) (by omega), ?_⟩
    refine ⟨T, _, rfl, DPut.t (k := wk n0 (m : Int)) hK (s' _ _ hb) (size_lt (by omega)), ?_⟩
    refine ⟨_, _, rfl, upd_same, ?_, ?_, s'.putN hT⟩
    · exact Nat.le_trans (length_putK _ _ _) (by omega)
    · rw [ei]
      exact fl.more ew
  rintro σ' H1 ⟨kvs, v, rfl, hK, lk, fl, s1⟩
  refine ⟨Nat.zero_le _, fun L hL0 => ?_⟩
  have nTL : T ≠ L := ne_of_none hK hL0
  have hL1 : H L = none := s1.free hL0
  have s2 := s1.nwr (o := .lst []) hL0
  have hK2 := (Same.nw (o := .lst []) hL0) _ _ hK
  refine ⟨_, rfl, a, rfl, ⟨_, SqL.of (s2 _ _ ha)⟩, ?_⟩
  refine for_list (K := K) (a := a) (xs := ns.map V.int) (fun i σ' H' => ∃ (v c : Option V) (ds : DS), σ' = [some (.ref a), some (.ref l), some (.ref T), v, some (.ref L), some (.int ds.num), some (.int (ds.len : Int)), c] ∧ H' L = some (.lst (ds.found.map V.int)) ∧ H' T = some (.dT kvs) ∧ Same H H' ∧
      runO (ns.drop i) ds = runO ns ⟨[], 0, 0⟩ ∧ ds.len ≤ 8 * i ∧ ds.found.length ≤ 8 * i) ⟨_, none, ⟨[], 0, 0⟩, rfl, upd_same, hK2, s2, rfl, Nat.le_refl _, Nat.le_refl _⟩ (fun i σ' H' _ ⟨_, _, _, _, _, _, s', _⟩ => SqL.of (s' _ _ ha)) ?_ ?_
  · rintro i y σ' H' hi ⟨v, c, ds, rfl, hL', hT', s', hrun, l1, l2⟩
    obtain ⟨o, ho, rfl⟩ := map_at hi
    have hil : i < ns.length := (List.getElem?_eq_some_iff.mp ho).1
    have ed : ns.drop i = o :: ns.drop (i + 1) := by
      obtain ⟨h1, h2⟩ := List.getElem?_eq_some_iff.mp ho
      rw [List.drop_eq_getElem_cons h1]; rw [h2]
    rw [ed] at hrun
    refine ⟨_, rfl, by decide, by decide, ?_⟩
    refine for_range (lo := 0) (n := 8) (fun j σ' H' => ∃ (c : Option V) (ds : DS), σ' = [some (.ref a), some (.ref l), some (.ref T), some (.int o), some (.ref L), some (.int ds.num), some (.int (ds.len : Int)), c] ∧ H' L = some (.lst (ds.found.map V.int)) ∧ H' T = some (.dT kvs) ∧ Same H H' ∧
      (match octGo o (8 - j) j ds with
        | none => none
        | some u => runO (ns.drop (i + 1)) u) = runO ns ⟨[], 0, 0⟩ ∧ ds.len ≤ 8 * i + j ∧ ds.found.length ≤ 8 * i + j) ⟨c, ds, rfl, hL', hT', s', hrun, l1, l2⟩ ?_ ?_
    · rintro j σ' H' hj ⟨c, ds, rfl, hL', hT', s', hrun, l1, l2⟩
      have e8 : 8 - j = (8 - (j + 1)) + 1 := by omega
      rw [e8] at hrun
      unfold octGo at hrun
      refine ⟨_, rfl, _, _, rfl, rfl, .inr ⟨by decide, by decide⟩, _, rfl, _, rfl, _, _, rfl, rfl, o, (7 : Int) + (j : Int) * -1, rfl, congrArg V.int (show (7 : Int) - (0 + (j : Int)) = (7 : Int) + (j : Int) * -1 by omega), by omega, _, 1, rfl, rfl, _, _, rfl, rfl, ?_⟩
      refine ⟨_, rfl, _, _, rfl, rfl, ?_⟩
      have key : ∀ (p : Addr) (H0 : Hp), H0 T = some (.dT kvs) → H0 p = none → DGet (upd H0 p (.tup [.int (ds.num * 2 + bitOf o j), .int ((ds.len : Int) + 1)])) T (.ref p) (if 0 ≤ look (ds.num * 2 + bitOf o j) (ds.len + 1) then some (.int (look (ds.num * 2 + bitOf o j) (ds.len + 1))) else none) := by
        intro p H0 h0 hp
        have nTp : T ≠ p := ne_of_none h0 hp
        have q := DGet.t (k := wk (ds.num * 2 + bitOf o j) ((ds.len + 1 : Nat) : Int)) (b := p) ((upd_ne nTp).trans h0) upd_same
        rw [fl.all] at q
        exact q
      refine ⟨_, rfl, _, rfl, by show 2 ≤ sizeLine; decide, fun p hp => ?_⟩
      have sp := Same.nw (o := .tup [.int (ds.num * 2 + bitOf o j), .int ((ds.len : Int) + 1)]) hp
      refine ⟨_, rfl, T, _, rfl, key p _ hT' hp, _, rfl, ?_⟩
      have s02 := s'.trans sp
      have hL2 := sp _ _ hL'
      have hT2 := sp _ _ hT'
      unfold bitStep at hrun
      generalize look (ds.num * 2 + bitOf o j) (ds.len + 1) = g at *
      by_cases c2 : (0 : Int) ≤ g
      · rw [if_pos c2]
        refine iteT ⟨_, rfl, _, rfl, _, rfl, by show 2 ≤ sizeLine; decide, fun p2 hp2 => ?_⟩
        rw [if_pos c2] at key
        have sp2 := Same.nw (o := .tup [.int (ds.num * 2 + bitOf o j), .int ((ds.len : Int) + 1)]) hp2
        have hL3 := sp2 _ _ hL2
        have hT3 := sp2 _ _ hT2
        refine ⟨T, _, rfl, key p2 _ hT2 hp2, rfl, _, rfl, ?_⟩
        by_cases c1 : g = 256
        · rw [if_pos c1] at hrun
          have e1 : decide (V.int g = V.int 256) = true := decide_eq_true (by rw [c1])
          rw [e1]
          refine iteT ⟨by show 0 ≤ sizeLine; decide, fun p3 hp3 => ?_⟩
          have dn : decode ns = none := by
            unfold decode
            rw [← hrun]
          exact kE dn p3 _ ((s02.trans sp2).nwr hp3) upd_same
        rw [if_neg c1, if_pos c2] at hrun
        have e1 : decide (V.int g = V.int 256) = false := decide_eq_false (fun z => c1 (V.int.inj z))
        rw [e1]
        refine iteF ⟨_, rfl, .inl ⟨rfl, _, SqL.of hL3⟩, _, rfl, _, rfl, _, rfl, by show 2 ≤ sizeLine; decide, fun p4 hp4 => ?_⟩
        have sp4 := Same.nw (o := .tup [.int (ds.num * 2 + bitOf o j), .int ((ds.len : Int) + 1)]) hp4
        refine ⟨T, _, rfl, key p4 _ hT3 hp4, L, _, _, rfl, rfl, sp4 _ _ hL3, by rw [List.length_map]; exact size_lt (by omega), ?_⟩
        exact ⟨_, ⟨ds.found ++ [g], 0, 0⟩, rfl, by rw [upd_same, List.map_append]; rfl, (upd_ne nTL).trans (sp4 _ _ hT3), ((s02.trans sp2).trans sp4).putN hL1, hrun, Nat.zero_le _, by rw [List.length_append, List.length_singleton]; omega⟩
      · rw [if_neg c2]
        have c1 : ¬ g = 256 := by omega
        rw [if_neg c1, if_neg c2] at hrun
        exact iteF ⟨_, ⟨ds.found, ds.num * 2 + bitOf o j, ds.len + 1⟩, rfl, hL2, hT2, s02, hrun, by show ds.len + 1 ≤ _; omega, by show ds.found.length ≤ _; omega⟩
    · rintro σ' H' ⟨c, ds, rfl, hL', hT', s', hrun, l1, l2⟩
      exact ⟨_, _, ds, rfl, hL', hT', s', hrun, by omega, by omega⟩
  · rintro σ' H' ⟨v, c, ds, rfl, hL', hT', s', hrun, l1, l2⟩
    rw [List.length_map] at hrun l1 l2
    rw [List.drop_length] at hrun
    have hdec : decode ns = endD ds := by
      unfold decode
      rw [← hrun]
      rfl
    refine ⟨_, rfl, _, _, rfl, rfl, _, rfl, ite2 (fun c1 => ?_) (fun c1 => ?_)⟩
    · have c1' : (7 : Int) < (ds.len : Int) := of_decide_eq_true c1
      refine iteT ⟨by show 0 ≤ sizeLine; decide, fun p hp => ?_⟩
      have dn : decode ns = none := by
        rw [hdec]
        unfold endD
        rw [if_pos (.inl (by omega))]
      exact kE dn p _ (s'.nwr hp) upd_same
    have c1' : ¬ (7 : Int) < (ds.len : Int) := fun z => c1 (decide_eq_true z)
    refine ⟨_, rfl, _, rfl, _, _, rfl, rfl, ⟨by omega, by omega, by decide⟩, _, _, rfl, rfl, rfl, _, rfl, ?_⟩
    show (if (!decide (V.int ds.num = V.int (1 * 2 ^ ((ds.len : Nat) : Int).toNat - 1))) = true then _ else _)
    rw [shl1]
    by_cases c2 : ds.num = 2 ^ ds.len - 1
    · have e2 : (!decide (V.int ds.num = V.int (2 ^ ds.len - 1))) = false := by rw [c2]; simp
      rw [e2]
      refine iteF ⟨_, rfl, ?_⟩
      refine kQ ds.found ?_ L H' s' hL'
      rw [hdec]
      unfold endD
      rw [if_neg (by rintro (z | z); omega; exact z c2)]
    · have e2 : (!decide (V.int ds.num = V.int (2 ^ ds.len - 1))) = true := by
        rw [decide_eq_false (fun z => c2 (V.int.inj z))]
        rfl
      rw [e2]
      refine iteT ⟨by show 0 ≤ sizeLine; decide, fun p hp => ?_⟩
      have dn : decode ns = none := by
        rw [hdec]
        unfold endD
        rw [if_pos (.inr c2)]
      exact kE dn p _ (s'.nwr hp) upd_same
end
end BR
/-! BrLaw3: _law_read_string, _law_read_pair -/
namespace BR
open PySem PySem.Spec PyProof.Rows L2
theorem shaped_ints (r : List Int) : SeqAt.shaped (.list (r.map .int)) = true := by
  unfold SeqAt.shaped
  rw [Bool.and_eq_true_iff]
  refine ⟨by simp only [PyData.canLay0]; exact lay_ints r, decide_eq_true ?_⟩
  simp only [PyData.depth, deep_ints]
  decide
section
variable {K : PySem.W.Frag}
theorem k_ss : PySem.W.kitOne K (.type "str") (.type "str") = some true := kit_ty (by decide +kernel)
theorem k_is : PySem.W.kitOne K (.type "int") (.type "str") = some false := kit_ty (by decide +kernel)
theorem k_ts : PySem.W.kitOne K (.type "tuple") (.type "str") = some false := kit_ty (by decide +kernel)
theorem k_tl : PySem.W.kitOne K (.type "tuple") (.type "list") = some false := kit_ty (by decide +kernel)
theorem k_ll : PySem.W.kitOne K (.type "list") (.type "list") = some true := kit_ty (by decide +kernel)
end
/-- the law's state at st; its list does not stand at av -/
def StAt (av : Addr) (H : Hp) (st : Addr) (kept : List Pr) (r : Int) : Prop := ∃ lk, H st = some (.dK [(.inr "kept", .ref lk), (.inr "room", .int r)]) ∧ RowsAt H lk kept ∧ lk ≠ av ∧ Trk H av
section
variable {av st q : Addr} {H H' : Hp} {kept : List Pr} {r : Int} {o : HO}
theorem StAt.nt (h : StAt av H st kept r) : NT H st := by
  obtain ⟨lk, h1, _⟩ := h
  exact nt_dK h1
theorem StAt.same (h : StAt av H st kept r) (s : Same H H') : StAt av H' st kept r := by
  obtain ⟨lk, h1, h2, h3, h4⟩ := h
  exact ⟨lk, s _ _ h1, h2.same s, h3, h4.same s⟩
theorem StAt.own (h : StAt av H st kept r) : StAt st H st kept r := by
  obtain ⟨lk, h1, ⟨ls, e1, e2⟩, h3, h4⟩ := h
  exact ⟨lk, h1, ⟨ls, e1, e2⟩, ne_of e1 h1 (fun z => by cases z), _, h1⟩
theorem StAt.shun (h : StAt av H st kept r) (n : H q = none) : StAt q (upd H q o) st kept r := by
  obtain ⟨lk, h1, ⟨ls, e1, e2⟩, h3, h4⟩ := h
  have s := Same.nw (o := o) n
  exact ⟨lk, s _ _ h1, ⟨ls, s _ _ e1, e2.imp fun _ _ x => x.kt s.kt⟩, ne_of_none e1 n, _, upd_same⟩
theorem StAt.at_av {xs : List V} (h : StAt av H st kept r) (e : H av = some (.lst xs)) : StAt av (upd H av o) st kept r := by
  obtain ⟨lk, h1, ⟨ls, e1, e2⟩, h3, h4⟩ := h
  have n : st ≠ av := ne_of h1 e (fun z => by cases z)
  exact ⟨lk, (upd_ne n).trans h1, ⟨ls, (upd_ne h3).trans e1, e2.imp fun _ _ x => x.kt ((Fr.own).kt (nt_lst e))⟩, h3, _, upd_same⟩
theorem StAt.getK {lk : Addr} (h : H st = some (.dK [(.inr "kept", .ref lk), (.inr "room", .int r)])) : DGet H st (.str "kept") (some (.ref lk)) := DGet.k (k := .inr "kept") h
theorem StAt.getR {lk : Addr} (h : H st = some (.dK [(.inr "kept", .ref lk), (.inr "room", .int r)])) : DGet H st (.str "room") (some (.int r)) := DGet.k (k := .inr "room") h
theorem StAt.putK {lk l : Addr} (h : H st = some (.dK [(.inr "kept", .ref lk), (.inr "room", .int r)])) : DPut H st (.str "kept") (.ref l) (upd H st (.dK [(.inr "kept", .ref l), (.inr "room", .int r)])) := DPut.k (k := .inr "kept") (v := .ref l) h (by show 2 < sizeLine; decide)
theorem StAt.putR {lk : Addr} {i : Int} (h : H st = some (.dK [(.inr "kept", .ref lk), (.inr "room", .int r)])) : DPut H st (.str "room") (.int i) (upd H st (.dK [(.inr "kept", .ref lk), (.inr "room", .int i)])) := DPut.k (k := .inr "room") (v := .int i) h (by show 2 < sizeLine; decide)
end
def spLReadStr : Sp := fun vs H Q _ => ∃ (a l : Addr) (ns : List Int) (p : Nat), vs = [.ref a, .int (p : Int), .ref l] ∧ H a = some (.lst (ns.map V.int)) ∧ ns.length ≤ 100000 ∧ WordsAt H l ∧
  LOut Same H Q (rdStr ns p) fun z => ∀ t v H', Same H H' → H' t = some (.tup [v, .int (z.2 : Int)]) → TI H' v z.1 → Q (.ref t) H'
def spLReadPair : Sp := fun vs H Q _ => ∃ (st av a l : Addr) (ns : List Int) (p : Nat) (kept : List Pr) (r : Int), vs = [.ref st, .ref a, .int (p : Int), .ref l] ∧ StAt av H st kept r ∧ kept.length ≤ 900000 ∧ H a = some (.lst (ns.map V.int)) ∧ ns.length ≤ 100000 ∧ WordsAt H l ∧ p < ns.length ∧
  LOut (Fr st) H Q (rdPair ⟨kept, r⟩ ns p) fun z => ∀ t v H', Fr st H H' → StAt av H' st z.2.2.kept z.2.2.room → H' t = some (.tup [v, .int (z.2.1 : Int)]) → TP H' v z.1 → Q (.ref t) H'
section
variable {P : Program} {w : World} {K : PySem.W.Frag} {mg : Str → Option Value} {base : Heap} {mt un hC hI hL hD aM aC aF : Addr}
theorem sc__law_read_string : FnScope ["_law_octets_here", "_law_at", "_law_words_here", "_law_length", "_law_stop", "_law_row"] ["_law_octets_here", "_law_at", "_law_words_here"] (defScope sLReadString) := ⟨rfl, rfl, rfl, by decide +kernel, rfl, by decide +kernel, by decide +kernel⟩
theorem ok_lreadString {f : Addr} {fd : FuncData} (F : FnP K "_law_read_string" "_law_read_string" sLReadString f fd) (T : Tx K mg mt un hC hI hL hD aM aC aF) (G__law_read : HasF P w K mg base CX0 1 "_law_read" ["_law_octets_here", "_law_at", "_law_n"] spRead)
    (G__law_decoded : HasF P w K mg base CX0 1 "_law_decoded" ["_law_octets_here", "_law_words_here"] spLDecoded) : FnOk P w K mg base CX0 2 f fd ["_law_octets_here", "_law_at", "_law_words_here"] spLReadStr := by
  refine ok0 F sc__law_read_string (fun vs H Q E h => ?_) (fun cdv A outer s H vs Q E hr h => ?_)
  · obtain ⟨a, l, ns, p, rfl, _⟩ := h
    rfl
  obtain ⟨a, l, ns, p, rfl, ha, hl, W, ho⟩ := h
  refine ⟨_, (pss_cons (ps_set (i := 3) sc__law_read_string.nd rfl (Or.inl rfl) (pe_f G__law_read (hr.mono (by decide)) pass0 (pa_cons (pv 0) (pa_cons (pv 1) (pa_cons pe_int pa_nil))))) (pss_cons (ps_if (pt_val (pe_callB call_isi (by rfl) T.isinstance (by decide +kernel) (pa_cons (pe_ix ix_tup (pv 3) pe_int (fun _ _ => rfl)) (pa_cons (pe_bltn (v := .ty "str") (u := .type "str") (by rfl) T.str (by decide +kernel) rfl) pa_nil)))) (pss_one (ps_ret (pv 3))) pss_nil) (pss_cons (ps_set (i := 4) sc__law_read_string.nd rfl (Or.inl rfl) (pe_op op_add (pe_ix ix_tup (pv 3) pe_int (fun _ _ => rfl)) (pe_ix ix_tup (pv 3) pe_int (fun _ _ => rfl)))) (pss_cons (ps_if (pt_cmpR op_gt (pv 4) (pe_callB call_len_seq (by rfl) T.len (by decide +kernel) (pa_cons (pv 0) pa_nil)) (nomark _)) (pss_one (ps_ret (pe_tup (pa_cons pe_str (pa_cons (pe_callB call_len_seq (by rfl) T.len (by decide +kernel) (pa_cons (pv 0) pa_nil)) pa_nil))))) pss_nil) (pss_cons (ps_set (i := 5) sc__law_read_string.nd rfl (Or.inl rfl) (pe_slice sl_list (pv 0) (po_some (pe_ix ix_tup (pv 3) pe_int (fun _ _ => rfl))) (po_some (pv 4)))) (C8.pss_cut (ps_if (pt_cmpR op_ge (pe_ix ix_list (pv 0) (pv 1) (fun _ _ => rfl)) pe_int (nomark _)) (pss_cons (ps_set (i := 5) sc__law_read_string.nd rfl (Or.inl rfl) (pe_f G__law_decoded (hr.mono (by decide)) pass0 (pa_cons (pv 5) (pa_cons (pv 2) pa_nil)))) (pss_one (ps_if (pt_cmpR (op_eqD hr.units) (pv 5) (pe_tup pa_nil) (nomark _)) (pss_one (ps_ret (pe_tup (pa_cons pe_str (pa_cons (pv 1) pa_nil))))) pss_nil))) pss_nil) (pss_one (ps_ret (pe_tup (pa_cons (pe_callTy call_tuple_of (by rfl) T.tuple (by decide +kernel) (pa_cons (pv 5) pa_nil)) (pa_cons (pv 4) pa_nil))))))))))), ?_⟩
  unfold rdStr at ho
  refine ⟨_, rfl, _, rfl, a, ns, p, 7, rfl, ha, hl, by decide, ?_⟩
  cases e : rdInt ns p 7 with
  | error x =>
    rw [e] at ho
    intro t H1 s1 h1
    refine ⟨_, rfl, t, _, _, _, rfl, rfl, SqT.of h1, rfl, _, _, _, _, true, rfl, .ty _, .base (.str _), k_ss, _, rfl, iteT ⟨_, rfl, ?_⟩⟩
    exact ho t H1 s1 h1
  | ok z =>
    obtain ⟨n, q⟩ := z
    rw [e] at ho
    dsimp only at ho
    obtain ⟨n0, pq, ql⟩ := rdInt_ok e
    intro t H1 s1 h1
    have ha1 := s1 _ _ ha
    refine ⟨_, rfl, t, _, _, _, rfl, rfl, SqT.of h1, rfl, _, _, _, _, false, rfl, .ty _, .base (.int _), k_is, _, rfl, iteF ?_⟩
    refine ⟨_, rfl, t, _, _, _, rfl, rfl, SqT.of h1, rfl, _, rfl, t, _, _, _, rfl, rfl, SqT.of h1, rfl, _, _, rfl, rfl, ?_⟩
    refine ⟨_, rfl, _, rfl, a, _, rfl, .inl (SqL.of ha1), _, _, rfl, rfl, _, rfl, ?_⟩
    rw [List.length_map]
    refine ite2 (fun c => ?_) (fun c => ?_)
    · have c' : (ns.length : Int) < (q : Int) + n := of_decide_eq_true c
      rw [if_pos (by omega)] at ho
      refine ⟨_, rfl, a, _, rfl, .inl (SqL.of ha1), by show 2 ≤ sizeLine; decide, fun y hy => ?_⟩
      rw [List.length_map]
      exact ho y _ (s1.nwr hy) upd_same
    have c' : ¬ (ns.length : Int) < (q : Int) + n := fun z => c (decide_eq_true z)
    rw [if_neg (by omega)] at ho
    refine ⟨_, rfl, _, rfl, t, _, _, _, rfl, rfl, SqT.of h1, rfl, _, rfl, _, rfl, _, rfl, a, _, rfl, SqL.of ha1, fun y hy => ?_⟩
    have ey : cutV (ns.map V.int) (some (q : Int)) (some ((q : Int) + n)) = ((ns.drop q).take n.toNat).map V.int := by
      rw [show (q : Int) + n = ((q + n.toNat : Nat) : Int) by omega, cut_mid _ _ _ (by rw [List.length_map]; omega), ← List.map_drop, ← List.map_take, Nat.add_sub_cancel_left]
    have hpl : p < ns.length := by omega
    obtain ⟨o, ep⟩ : ∃ o, ns[p]? = some o := ⟨_, List.getElem?_eq_getElem hpl⟩
    have eg : ns.getD p 0 = o := by rw [List.getD_eq_getElem?_getD, ep]; rfl
    rw [eg] at ho
    have lrow : ((ns.drop q).take n.toNat).length ≤ 100000 := by
      rw [List.length_take]; rw [List.length_drop]
      omega
    have hy1 : upd H1 y (.lst (cutV (ns.map V.int) (some (q : Int)) (some ((q : Int) + n)))) y = some (.lst (((ns.drop q).take n.toNat).map V.int)) := by rw [upd_same, ey]
    have s2 := s1.nwr (o := .lst (cutV (ns.map V.int) (some (q : Int)) (some ((q : Int) + n)))) hy
    generalize (ns.drop q).take n.toNat = row at *
    refine ⟨fun σ' H' => ∃ (y : Addr) (r : List Int), σ' = [some (.ref a), some (.int (p : Int)), some (.ref l), some (.ref t), some (.int ((q : Int) + n)), some (.ref y)] ∧ Same H H' ∧ H' y = some (.lst (r.map V.int)) ∧ (∀ t v H', Same H H' → H' t = some (.tup [v, .int ((q + n.toNat : Nat) : Int)]) → TI H' v r → Q (.ref t) H'), ?_, ?_⟩
    · refine ⟨_, rfl, _, rfl, a, _, _, _, rfl, rfl, SqL.of (s2 _ _ ha), atI_nat (at_map ep), _, _, rfl, rfl, _, rfl, ite2 (fun c2 => ?_) (fun c2 => ?_)⟩
      · have c2' : o ≥ 128 := of_decide_eq_true c2
        rw [if_pos c2'] at ho
        refine ⟨_, rfl, _, rfl, y, l, row, rfl, hy1, lrow, W.same s2, fun dn d H3 s3 h3 => ?_, fun r dr d H3 s3 h3 => ?_⟩
        · rw [dn] at ho
          refine ⟨_, rfl, by show 0 ≤ sizeLine; decide, fun g hg => ?_⟩
          refine ⟨.tuple [], .tuple [], .tup (SqT.of ((Same.nw hg) _ _ h3)) .nil, .tup (SqT.of upd_same) .nil, by decide, by decide, _, rfl, ?_⟩
          refine iteT ⟨_, rfl, by show 2 ≤ sizeLine; decide, fun g2 hg2 => ?_⟩
          exact ho g2 _ (((s2.trans s3).nwr hg).nwr hg2) upd_same
        · rw [dr] at ho
          refine ⟨_, rfl, by show 0 ≤ sizeLine; decide, fun g hg => ?_⟩
          refine ⟨.list (r.map .int), .tuple [], .lst (SqL.of ((Same.nw hg) _ _ h3)) (dp_ints r), .tup (SqT.of upd_same) .nil, shaped_ints r, by decide, _, rfl, ?_⟩
          exact iteF ⟨d, r, rfl, (s2.trans s3).nwr hg, (Same.nw hg) _ _ h3, ho⟩
      · have c2' : ¬ o ≥ 128 := fun z => c2 (decide_eq_true z)
        rw [if_neg c2'] at ho
        exact ⟨y, row, rfl, s2, hy1, ho⟩
    · rintro σ' H3 ⟨y, r, rfl, s3, h3, ho⟩
      refine ⟨_, rfl, y, _, rfl, .inl ⟨SqL.of h3, fun g hg => ?_⟩⟩
      refine ⟨_, rfl, by show 2 ≤ sizeLine; decide, fun g2 hg2 => ?_⟩
      refine ho g2 _ _ ((s3.nwr hg).nwr hg2) ?_ ⟨g, rfl, (Same.nw hg2) _ _ upd_same⟩
      rw [upd_same, show ((q + n.toNat : Nat) : Int) = (q : Int) + n by omega]
end
end BR
/-! BrLaw4: _law_read_pair -/
namespace BR
open PySem PySem.Spec PyProof.Rows L2
theorem LOut.frR {st : Addr} {H H1 : Hp} {Q : VK} {w : Str} {i : Int} (f : Fr st H H1) (h : ∀ t H', Fr st H H' → H' t = some (.tup [.str w, .int i]) → Q (.ref t) H') : ∀ t H', Fr st H1 H' → H' t = some (.tup [.str w, .int i]) → Q (.ref t) H' := fun t H' g e => h t H' (f.trans g) e
theorem rowAt_big {kept : List Pr} {r n : Int} (h : (n : Int) > ((fixedL ++ kept).length : Int)) : rowAt ⟨kept, r⟩ n = none := by
  unfold rowAt
  rw [if_neg (by omega)]
  show (fixedL ++ kept)[n.toNat - 1]? = none
  exact List.getElem?_eq_none (by omega)
theorem rowAt_in {kept : List Pr} {r n : Int} (h0 : 0 < n) : rowAt ⟨kept, r⟩ n = (fixedL ++ kept)[(n - 1).toNat]? := by
  unfold rowAt
  rw [if_neg (by omega), show n.toNat - 1 = (n - 1).toNat by omega]
theorem bits7 {o : Int} : bitsOf o = 7 ↔ o ≥ 128 := by
  unfold bitsOf
  split
  · exact ⟨fun _ => by assumption, fun _ => rfl⟩
  · split
    · exact ⟨fun z => by omega, fun z => by omega⟩
    · exact ⟨fun z => by omega, fun z => by omega⟩
theorem bits6 {o : Int} (h : ¬ o ≥ 128) : bitsOf o = 6 ↔ o ≥ 64 := by
  unfold bitsOf
  rw [if_neg h]
  split
  · exact ⟨fun _ => by assumption, fun _ => rfl⟩
  · exact ⟨fun z => by omega, fun z => by omega⟩
section
variable {P : Program} {w : World} {K : PySem.W.Frag} {mg : Str → Option Value} {base : Heap} {mt un hC hI hL hD aM aC aF : Addr}
theorem sc__law_read_pair : FnScope ["_law_state", "_law_octets_here", "_law_at", "_law_words_here", "_law_rows", "_law_bits", "_law_number", "_law_name", "_law_value", "_law_pair_here"] ["_law_state", "_law_octets_here", "_law_at", "_law_words_here"] (defScope sReadPair) := ⟨rfl, rfl, rfl, by decide +kernel, rfl, by decide +kernel, by decide +kernel⟩
theorem ok_lreadPair {f : Addr} {fd : FuncData} (F : FnP K "_law_read_pair" "_law_read_pair" sReadPair f fd) (T : Tx K mg mt un hC hI hL hD aM aC aF) (G__law_read : HasF P w K mg base CX0 1 "_law_read" ["_law_octets_here", "_law_at", "_law_n"] spRead)
    (G__law_read_string : HasF P w K mg base CX0 2 "_law_read_string" ["_law_octets_here", "_law_at", "_law_words_here"] spLReadStr) (G__law_fixed : HasF P w K mg base CX0 2 "_law_fixed" [] spLFixed) (G__law_add : HasF P w K mg base CX0 3 "_law_add" ["_law_kept", "_law_room", "_law_pair_here"] spLAdd) :
    FnOk P w K mg base CX0 4 f fd ["_law_state", "_law_octets_here", "_law_at", "_law_words_here"] spLReadPair := by
  refine ok0 F sc__law_read_pair (fun vs H Q E h => ?_) (fun cdv A outer s H vs Q E hr h => ?_)
  · obtain ⟨st, av, a, l, ns, p, kept, r, rfl, _⟩ := h
    rfl
  obtain ⟨st, av, a, l, ns, p, kept, r, rfl, S, lk9, ha, hl, W, hp, ho⟩ := h
  have hu := Nat.lt_of_le_of_lt (Nat.add_le_add_left (show 1 ≤ 64 by decide) _) hr.units
  obtain ⟨o, ep⟩ : ∃ o, ns[p]? = some o := ⟨_, List.getElem?_eq_getElem hp⟩
  have eg : ns.getD p 0 = o := by rw [List.getD_eq_getElem?_getD, ep]; rfl
  rw [rdPair_name, eg] at ho
  refine ⟨_, (pss_cons (ps_set (i := 4) sc__law_read_pair.nd rfl (Or.inl rfl) (pe_op op_cat (pe_f0 G__law_fixed (hr.mono (by decide)) pass0) (pe_dget hu (pv 0) pe_str (fun _ _ => rfl)))) (pss_cons (ps_set (i := 5) sc__law_read_pair.nd rfl (Or.inl rfl) pe_int) (C8.pss_cut (ps_if (pt_cmpR op_ge (pe_ix ix_list (pv 1) (pv 2) (fun _ _ => rfl)) pe_int (nomark _)) (pss_one (ps_set (i := 5) sc__law_read_pair.nd rfl (Or.inl rfl) pe_int)) (pss_one (ps_if (pt_cmpR op_ge (pe_ix ix_list (pv 1) (pv 2) (fun _ _ => rfl)) pe_int (nomark _)) (pss_one (ps_set (i := 5) sc__law_read_pair.nd rfl (Or.inl rfl) pe_int)) pss_nil))) (pss_cons (ps_set (i := 6) sc__law_read_pair.nd rfl (Or.inl rfl) (pe_f G__law_read (hr.mono (by decide)) pass0 (pa_cons (pv 1) (pa_cons (pv 2) (pa_cons (pv 5) pa_nil))))) (pss_cons (ps_if (pt_val (pe_callB call_isi (by rfl) T.isinstance (by decide +kernel) (pa_cons (pe_ix ix_tup (pv 6) pe_int (fun _ _ => rfl)) (pa_cons (pe_bltn (v := .ty "str") (u := .type "str") (by rfl) T.str (by decide +kernel) rfl) pa_nil)))) (pss_one (ps_ret (pv 6))) pss_nil) (pss_cons (ps_if (PW.pt (pw_or (pt_cmpR op_gt (pe_ix ix_tup (pv 6) pe_int (fun _ _ => rfl)) (pe_callB call_len_seq (by rfl) T.len (by decide +kernel) (pa_cons (pv 4) pa_nil)) (nomark _)) (pw_or1 (PW.pt (pw_and (pt_cmpR op_eq (pv 5) pe_int (nomark _)) (pw_and1 (pt_cmpR op_eq (pe_ix ix_tup (pv 6) pe_int (fun _ _ => rfl)) pe_int (nomark _)))))))) (pss_one (ps_ret (pe_tup (pa_cons pe_str (pa_cons (pv 2) pa_nil))))) pss_nil) (pss_cons (ps_if (pt_cmpR op_eq (pv 5) pe_int (nomark _)) (pss_one (ps_ret (pe_tup (pa_cons (pe_ix ix_list (pv 4) (pe_op op_sub (pe_ix ix_tup (pv 6) pe_int (fun _ _ => rfl)) pe_int) (fun _ _ => rfl)) (pa_cons (pe_ix ix_tup (pv 6) pe_int (fun _ _ => rfl)) pa_nil))))) pss_nil) (pss_cons (ps_set (i := 7) sc__law_read_pair.nd rfl (Or.inl rfl) (pe_tup (pa_cons (pe_tup pa_nil) (pa_cons (pe_ix ix_tup (pv 6) pe_int (fun _ _ => rfl)) pa_nil)))) (C8.pss_cut (ps_if (pt_cmpR op_gt (pe_ix ix_tup (pv 6) pe_int (fun _ _ => rfl)) pe_int (nomark _)) (pss_one (ps_set (i := 7) sc__law_read_pair.nd rfl (Or.inl rfl) (pe_tup (pa_cons (pe_ix ix_tup (pe_ix ix_list (pv 4) (pe_op op_sub (pe_ix ix_tup (pv 6) pe_int (fun _ _ => rfl)) pe_int) (fun _ _ => rfl)) pe_int (fun _ _ => rfl)) (pa_cons (pe_ix ix_tup (pv 6) pe_int (fun _ _ => rfl)) pa_nil))))) (pss_one (ps_set (i := 7) sc__law_read_pair.nd rfl (Or.inl rfl) (pe_f G__law_read_string (hr.mono (by decide)) pass0 (pa_cons (pv 1) (pa_cons (pe_ix ix_tup (pv 6) pe_int (fun _ _ => rfl)) (pa_cons (pv 3) pa_nil))))))) (pss_cons (ps_if (pt_val (pe_callB call_isi (by rfl) T.isinstance (by decide +kernel) (pa_cons (pe_ix ix_tup (pv 7) pe_int (fun _ _ => rfl)) (pa_cons (pe_bltn (v := .ty "str") (u := .type "str") (by rfl) T.str (by decide +kernel) rfl) pa_nil)))) (pss_one (ps_ret (pv 7))) pss_nil) (pss_cons (ps_set (i := 8) sc__law_read_pair.nd rfl (Or.inl rfl) (pe_f G__law_read_string (hr.mono (by decide)) pass0 (pa_cons (pv 1) (pa_cons (pe_ix ix_tup (pv 7) pe_int (fun _ _ => rfl)) (pa_cons (pv 3) pa_nil))))) (pss_cons (ps_if (pt_val (pe_callB call_isi (by rfl) T.isinstance (by decide +kernel) (pa_cons (pe_ix ix_tup (pv 8) pe_int (fun _ _ => rfl)) (pa_cons (pe_bltn (v := .ty "str") (u := .type "str") (by rfl) T.str (by decide +kernel) rfl) pa_nil)))) (pss_one (ps_ret (pv 8))) pss_nil) (pss_cons (ps_set (i := 9) sc__law_read_pair.nd rfl (Or.inl rfl) (pe_tup (pa_cons (pe_ix ix_tup (pv 7) pe_int (fun _ _ => rfl)) (pa_cons (pe_ix ix_tup (pv 8) pe_int (fun _ _ => rfl)) pa_nil)))) (C8.pss_cut (ps_if (pt_cmpR op_eq (pv 5) pe_int (nomark _)) (pss_one (ps_dput hu (pv 0) pe_str (pe_f G__law_add (hr.mono (by decide)) pass0 (pa_cons (pe_dget hu (pv 0) pe_str (fun _ _ => rfl)) (pa_cons (pe_dget hu (pv 0) pe_str (fun _ _ => rfl)) (pa_cons (pv 9) pa_nil)))) rfl)) pss_nil) (pss_one (ps_ret (pe_tup (pa_cons (pv 9) (pa_cons (pe_ix ix_tup (pv 8) pe_int (fun _ _ => rfl)) pa_nil))))))))))))))))))), ?_⟩
  refine ⟨rfl, fun fl H1 s1 n1 R1 => ?_⟩
  obtain ⟨lk, g1, g2, g3, g4⟩ := id (S.same s1)
  obtain ⟨lv, g5, g6⟩ := id g2
  obtain ⟨fv, f1, f2⟩ := R1
  have elen : fv.length + lv.length = (fixedL ++ kept).length := by rw [f2.length, g6.length, List.length_append]
  have ekl : (fixedL ++ kept).length ≤ 900023 := by rw [List.length_append, fixed_len]; omega
  refine ⟨_, rfl, st, _, rfl, StAt.getK g1, rd_cat f1 g5 (by omega) fun rl H2 s2 n2 h2 => ?_⟩
  have s02 := s1.trans s2
  have al : All2 (TP H2) (fv ++ lv) (fixedL ++ kept) := (f2.append g6).imp fun _ _ x => x.kt s2.kt
  have ll : (fv ++ lv).length = (fixedL ++ kept).length := al.length
  clear g1 g2 g3 g4 g5 g6 f1 f2
  generalize fv ++ lv = rv at *
  -- the bits
  refine ⟨fun σ' H' => H2 = H' ∧ σ' = [some (.ref st), some (.ref a), some (.int (p : Int)), some (.ref l), some (.ref rl), some (.int (bitsOf o : Int)), none, none, none, none], ?_, ?_⟩
  · refine ⟨_, rfl, _, rfl, a, _, _, _, rfl, rfl, SqL.of (s02 _ _ ha), atI_nat (at_map ep), _, _, rfl, rfl, _, rfl, ite2 (fun c => ?_) (fun c => ?_)⟩
    · have c' : o ≥ 128 := of_decide_eq_true c
      refine ⟨rfl, ?_⟩
      unfold bitsOf
      rw [if_pos c']
      rfl
    have c' : ¬ o ≥ 128 := fun z => c (decide_eq_true z)
    refine ⟨_, rfl, _, rfl, a, _, _, _, rfl, rfl, SqL.of (s02 _ _ ha), atI_nat (at_map ep), _, _, rfl, rfl, _, rfl, ite2 (fun c => ?_) (fun c => ?_)⟩
    · have c2' : o ≥ 64 := of_decide_eq_true c
      refine ⟨rfl, ?_⟩
      unfold bitsOf
      rw [if_neg c', if_pos c2']
      rfl
    · have c2' : ¬ o ≥ 64 := fun z => c (decide_eq_true z)
      refine ⟨rfl, ?_⟩
      unfold bitsOf
      rw [if_neg c', if_neg c2']
      rfl
  rintro σ' H' ⟨rfl, rfl⟩
  have b8 : bitsOf o ≤ 8 := by
    unfold bitsOf
    split
    · decide
    · split <;> decide
  refine ⟨_, rfl, _, rfl, _, rfl, a, ns, p, bitsOf o, rfl, s02 _ _ ha, hl, b8, ?_⟩
  cases e : rdInt ns p (bitsOf o) with
  | error x =>
    rw [e] at ho
    intro t H3 s3 h3
    refine ⟨_, rfl, t, _, _, _, rfl, rfl, SqT.of h3, rfl, _, _, _, _, true, rfl, .ty _, .base (.str _), k_ss, _, rfl, iteT ⟨_, rfl, ?_⟩⟩
    exact ho t H3 (Fr.of (s02.trans s3)) h3
  | ok z =>
    obtain ⟨n, q⟩ := z
    rw [e] at ho
    dsimp only at ho
    obtain ⟨n0, pq, ql⟩ := rdInt_ok e
    intro t H3 s3 h3
    have s03 := s02.trans s3
    have ha3 := s03 _ _ ha
    have al3 : All2 (TP H3) rv (fixedL ++ kept) := al.imp fun _ _ x => x.kt s3.kt
    have h2' := s3 _ _ h2
    have S3 := S.same s03
    have W3 := W.same s03
    refine ⟨_, rfl, t, _, _, _, rfl, rfl, SqT.of h3, rfl, _, _, _, _, false, rfl, .ty _, .base (.int _), k_is, _, rfl, iteF ?_⟩
    -- no such row
    refine ⟨_, rfl, t, _, _, _, rfl, rfl, SqT.of h3, rfl, _, rfl, rl, _, rfl, .inl (SqL.of h2'), _, _, rfl, rfl, _, rfl, ite2 (fun c1 => ?_) (fun c1 => ?_)⟩
    · have c1' : n > (((fixedL ++ kept).length : Nat) : Int) := by
        have := of_decide_eq_true c1
        omega
      refine iteT ⟨_, rfl, by show 2 ≤ sizeLine; decide, fun y hy => ?_⟩
      have e0 : rowAt ⟨kept, r⟩ n = none := rowAt_big c1'
      have en : nameOf ⟨kept, r⟩ ns p q n = .error (.row, p) := by
        unfold nameOf
        rw [if_neg (by omega), e0]
      rw [e0, en] at ho
      have ho' : LOut (Fr st) H Q (.error (.row, p) : Except Ft (Pr × Nat × Tb)) (fun z => ∀ t v H', Fr st H H' → StAt av H' st z.2.2.kept z.2.2.room → H' t = some (.tup [v, .int (z.2.1 : Int)]) → TP H' v z.1 → Q (.ref t) H') := by
        by_cases c : o ≥ 128
        · rw [if_pos c] at ho
          exact ho
        · rw [if_neg c] at ho
          exact ho
      exact ho' y _ (Fr.of (s03.nwr hy)) upd_same
    have c1' : ¬ n > (((fixedL ++ kept).length : Nat) : Int) := fun z => c1 (decide_eq_true (by omega))
    refine ⟨_, rfl, rfl, _, rfl, ?_⟩
    show (if decide (V.int (bitsOf o : Int) = V.int 7) = true then _ else _)
    have hbit : decide (V.int (bitsOf o : Int) = V.int 7) = decide (o ≥ 128) := by
      by_cases c : o ≥ 128
      · rw [decide_eq_true c]
        exact decide_eq_true (by rw [bits7.mpr c]; rfl)
      · rw [decide_eq_false c]
        exact decide_eq_false fun z => c (bits7.mp (by have := V.int.inj z; omega))
    rw [hbit]
    have inrow : 0 < n → ∃ pr v, rowAt ⟨kept, r⟩ n = some pr ∧ atI rv (n - 1) = some v ∧ TP H3 v pr := fun z => by
      have hlt : (n - 1).toNat < (fixedL ++ kept).length := by omega
      obtain ⟨v, hv, tv⟩ := al3.get (List.getElem?_eq_getElem hlt)
      refine ⟨_, v, (rowAt_in z).trans (List.getElem?_eq_getElem hlt), atI_int hv (by omega), tv⟩
    by_cases c : o ≥ 128
    · rw [decide_eq_true c]
      rw [if_pos c] at ho
      refine iteT ⟨_, rfl, t, _, _, _, rfl, rfl, SqT.of h3, rfl, rfl, _, rfl, ?_⟩
      show (if decide (V.int n = V.int 0) = true then _ else _)
      by_cases c3 : n = 0
      · rw [decide_eq_true (show V.int n = V.int 0 by rw [c3])]
        refine iteT ⟨_, rfl, by show 2 ≤ sizeLine; decide, fun y hy => ?_⟩
        rw [c3, rowAt_zero] at ho
        exact ho y _ (Fr.of (s03.nwr hy)) upd_same
      rw [decide_eq_false (show ¬ V.int n = V.int 0 from fun z => c3 (V.int.inj z))]
      refine iteF ⟨_, rfl, rfl, _, rfl, ?_⟩
      show (if decide (V.int (bitsOf o : Int) = V.int 7) = true then _ else _)
      rw [hbit, decide_eq_true c]
      obtain ⟨pr, v, e1, e2, tv⟩ := inrow (by omega)
      rw [e1] at ho
      refine iteT ⟨_, rfl, _, rfl, t, _, _, _, rfl, rfl, SqT.of h3, rfl, _, _, rfl, rfl, rl, _, _, v, rfl, rfl, SqL.of h2', e2, _, rfl, t, _, _, _, rfl, rfl, SqT.of h3, rfl, by show 2 ≤ sizeLine; decide, fun y hy => ?_⟩
      have sy := s03.nwr (o := .tup [v, .int (q : Int)]) hy
      exact ho y v _ (Fr.of sy) (S.same sy) upd_same (tv.kt (Same.nw hy).kt)
    rw [decide_eq_false c]
    rw [if_neg c] at ho
    refine iteF ⟨_, rfl, rfl, _, rfl, ?_⟩
    show (if decide (V.int (bitsOf o : Int) = V.int 7) = true then _ else _)
    rw [hbit, decide_eq_false c]
    refine iteF ⟨by show 0 ≤ sizeLine; decide, fun y1 hy1 => ⟨_, rfl, t, _, _, _, rfl, rfl, SqT.of ((Same.nw hy1) _ _ h3), rfl, by show 2 ≤ sizeLine; decide, fun y2 hy2 => ?_⟩⟩
    have s34 := (Same.nw (o := .tup []) hy1).nwr (o := .tup [.ref y1, .int (q : Int)]) hy2
    generalize upd (upd H3 y1 (.tup [])) y2 (.tup [.ref y1, .int (q : Int)]) = H4 at *
    have h4 := s34 _ _ h3
    have s04 := s03.trans s34
    -- the name
    refine ⟨fun σ' H' => ∃ (y : Addr), σ' = [some (V.ref st), some (V.ref a), some (V.int (p : Int)), some (V.ref l), some (V.ref rl), some (V.int (bitsOf o : Int)), some (V.ref t), some (.ref y), none, none] ∧ Same H4 H' ∧
      ((∃ (f : Ft), nameOf ⟨kept, r⟩ ns p q n = .error f ∧ H' y = some (.tup [.str (wS f.1), .int (f.2 : Int)])) ∨ ∃ (x : List Int) (v : V) (q2 : Nat), nameOf ⟨kept, r⟩ ns p q n = .ok (x, q2) ∧ H' y = some (.tup [v, .int (q2 : Int)]) ∧ TI H' v x), ?_, ?_⟩
    · refine ⟨_, rfl, t, _, _, _, rfl, rfl, SqT.of h4, rfl, _, _, rfl, rfl, _, rfl, ite2 (fun c3 => ?_) (fun c3 => ?_)⟩
      · have c3' : 0 < n := of_decide_eq_true c3
        obtain ⟨pr, v, e1, e2, tv⟩ := inrow c3'
        obtain ⟨g, na, nb, rfl, hg, ta, tb⟩ := tv.kt s34.kt
        refine ⟨_, rfl, _, rfl, t, _, _, _, rfl, rfl, SqT.of h4, rfl, _, _, rfl, rfl, rl, _, _, .ref g, rfl, rfl, SqL.of (s34 _ _ h2'), e2, g, _, _, _, rfl, rfl, SqT.of hg, rfl, _, rfl, t, _, _, _, rfl, rfl, SqT.of h4, rfl, by show 2 ≤ sizeLine; decide, fun y hy => ?_⟩
        refine ⟨y, rfl, Same.nw hy, .inr ⟨pr.1, na, q, ?_, upd_same, ta.kt (Same.nw hy).kt⟩⟩
        unfold nameOf
        rw [if_neg (by omega), e1]
      · have c3' : n = 0 := by
          have : ¬ 0 < n := fun z => c3 (decide_eq_true z)
          omega
        refine ⟨_, rfl, _, rfl, t, _, _, _, rfl, rfl, SqT.of h4, rfl, _, rfl, a, l, ns, q, rfl, s04 _ _ ha, hl, W.same s04, ?_⟩
        have en : nameOf ⟨kept, r⟩ ns p q n = rdStr ns q := by
          unfold nameOf
          rw [if_pos c3']
        rw [en]
        cases rdStr ns q with
        | error x => exact fun y H5 s5 h5 => ⟨y, rfl, s5, .inl ⟨x, rfl, h5⟩⟩
        | ok z => exact fun y v H5 s5 h5 t5 => ⟨y, rfl, s5, .inr ⟨z.1, v, z.2, rfl, h5, t5⟩⟩
    rintro σ' H5 ⟨y, rfl, s45, hy⟩
    have s05 := s04.trans s45
    rcases hy with ⟨f, en, hy⟩ | ⟨x, v, q2, en, hy, tv⟩
    · rw [en] at ho
      refine ⟨_, rfl, y, _, _, _, rfl, rfl, SqT.of hy, rfl, _, _, _, _, true, rfl, .ty _, .base (.str _), k_ss, _, rfl, iteT ⟨_, rfl, ?_⟩⟩
      exact ho y H5 (Fr.of s05) hy
    rw [en] at ho
    dsimp only at ho
    obtain ⟨tv1, rfl, htv⟩ := id tv
    refine ⟨_, rfl, y, _, _, _, rfl, rfl, SqT.of hy, rfl, _, _, _, _, false, rfl, .ty _, .base (.tup htv), k_ts, _, rfl, iteF ?_⟩
    refine ⟨_, rfl, _, rfl, y, _, _, _, rfl, rfl, SqT.of hy, rfl, _, rfl, a, l, ns, q2, rfl, s05 _ _ ha, hl, W.same s05, ?_⟩
    cases e3 : rdStr ns q2 with
    | error x =>
      rw [e3] at ho
      intro g H6 s6 hg
      refine ⟨_, rfl, g, _, _, _, rfl, rfl, SqT.of hg, rfl, _, _, _, _, true, rfl, .ty _, .base (.str _), k_ss, _, rfl, iteT ⟨_, rfl, ?_⟩⟩
      exact ho g H6 (Fr.of (s05.trans s6)) hg
    | ok z =>
      obtain ⟨yv, q3⟩ := z
      rw [e3] at ho
      dsimp only at ho
      intro g u H6 s6 hg tu
      have s06 := s05.trans s6
      obtain ⟨tu1, rfl, htu⟩ := id tu
      refine ⟨_, rfl, g, _, _, _, rfl, rfl, SqT.of hg, rfl, _, _, _, _, false, rfl, .ty _, .base (.tup htu), k_ts, _, rfl, iteF ?_⟩
      refine ⟨_, rfl, y, _, _, _, rfl, rfl, SqT.of (s6 _ _ hy), rfl, _, rfl, g, _, _, _, rfl, rfl, SqT.of hg, rfl, by show 2 ≤ sizeLine; decide, fun pa hpa => ?_⟩
      have sp := Same.nw (o := .tup [.ref tv1, .ref tu1]) hpa
      have s07 := s06.trans sp
      have TPp : TP (upd H6 pa (.tup [.ref tv1, .ref tu1])) (.ref pa) (x, yv) := ⟨pa, _, _, rfl, upd_same, (tv.kt s6.kt).kt sp.kt, tu.kt sp.kt⟩
      have hg7 := sp _ _ hg
      generalize upd H6 pa (.tup [.ref tv1, .ref tu1]) = H7 at *
      have S7 := S.same s07
      refine ⟨fun σ' H' => σ' = [some (V.ref st), some (V.ref a), some (V.int (p : Int)), some (V.ref l), some (V.ref rl), some (V.int (bitsOf o : Int)), some (V.ref t), some (.ref y), some (.ref g), some (.ref pa)] ∧ Fr st H H' ∧ TP H' (.ref pa) (x, yv) ∧ H' g = some (.tup [.ref tu1, .int (q3 : Int)]) ∧
        (∀ t v H'', Same H' H'' → H'' t = some (.tup [v, .int (q3 : Int)]) → TP H'' v (x, yv) → Q (.ref t) H''), ?_, ?_⟩
      · refine ⟨_, rfl, rfl, _, rfl, ?_⟩
        show (if decide (V.int (bitsOf o : Int) = V.int 6) = true then _ else _)
        have hb6 : decide (V.int (bitsOf o : Int) = V.int 6) = decide (o ≥ 64) := by
          by_cases c6 : o ≥ 64
          · rw [decide_eq_true c6]
            exact decide_eq_true (by rw [(bits6 c).mpr c6]; rfl)
          · rw [decide_eq_false c6]
            exact decide_eq_false fun z => c6 ((bits6 c).mp (by have := V.int.inj z; omega))
        rw [hb6]
        refine ite2 (fun c6 => ?_) (fun c6 => ?_)
        · have c6' : o ≥ 64 := of_decide_eq_true c6
          rw [if_pos c6'] at ho
          obtain ⟨lk, g1, g2, g3, g4⟩ := id S7
          refine ⟨_, rfl, st, _, rfl, StAt.getK g1, _, rfl, st, _, rfl, StAt.getR g1, _, rfl, lk, kept, r, _, (x, yv), rfl, g2, lk9, TPp, fun nl H8 s8 n8 R8 => ?_⟩
          have g18 := s8 _ _ g1
          refine ⟨_, rfl, st, _, rfl, StAt.putK g18, ?_⟩
          obtain ⟨lv, i1, i2⟩ := id R8
          have nlst : nl ≠ st := ne_of i1 g18 (fun z => by cases z)
          have kt8 : KT H8 (upd H8 st (.dK [(.inr "kept", .ref nl), (.inr "room", .int r)])) := (Fr.own).kt (nt_dK g18)
          have f8 := ((Fr.of (m := st) (s07.trans s8)).owner (o := .dK [(.inr "kept", .ref nl), (.inr "room", .int r)]))
          refine ⟨rfl, f8, (TPp.kt s8.kt).kt kt8, kt8 _ _ (s8 _ _ hg7), fun t v H9 s9 h9 t9 => ?_⟩
          refine ho t v H9 (f8.trans (Fr.of s9)) (StAt.same ⟨nl, upd_same, ⟨lv, (upd_ne nlst).trans i1, i2.imp fun _ _ z => z.kt kt8⟩, g4.ne n8, (g4.same s8).fr Fr.own upd_same⟩ s9) h9 t9
        · have c6' : ¬ o ≥ 64 := fun z => c6 (decide_eq_true z)
          rw [if_neg c6'] at ho
          exact ⟨rfl, Fr.of s07, TPp, hg7, fun t v H9 s9 h9 t9 => ho t v H9 ((Fr.of s07).trans (Fr.of s9)) (S7.same s9) h9 t9⟩
      · rintro σ' H8 ⟨rfl, f8, tp8, hg8, k8⟩
        refine ⟨_, rfl, _, rfl, g, _, _, _, rfl, rfl, SqT.of hg8, rfl, by show 2 ≤ sizeLine; decide, fun z hz => ?_⟩
        exact k8 z _ _ (Same.nw hz) upd_same (tp8.kt (Same.nw hz).kt)
end
end BR
/-! BrLaw5: _law_unpack -/
namespace BR
open PySem PySem.Spec PyProof.Rows L2
theorem mask_room : ∀ o : Nat, o < 256 → decide (Builtin.bitAnd (o : Int) 224 = 32) = decide (isRoom (o : Int)) := by decide +kernel
theorem maskB {o : Int} (h0 : 0 ≤ o) (h1 : o < 256) : decide (V.int (Builtin.bitAnd o 224) = V.int 32) = decide (isRoom o) := by
  obtain ⟨n, rfl⟩ : ∃ n : Nat, o = (n : Int) := Int.eq_ofNat_of_zero_le h0
  rw [← mask_room n (by omega)]
  by_cases c : Builtin.bitAnd (n : Int) 224 = 32
  · rw [decide_eq_true c]
    exact decide_eq_true (by rw [c])
  · rw [decide_eq_false c]
    exact decide_eq_false fun z => c (V.int.inj z)
def spLUnpack : Sp := fun vs H Q _ => ∃ (st av a l : Addr) (ns : List Int) (kept : List Pr) (r : Int), vs = [.ref st, .ref a, .ref l] ∧ StAt av H st kept r ∧ TbOk ⟨kept, r⟩ ∧ H a = some (.lst (ns.map V.int)) ∧ Oct ns ∧ ns.length ≤ 100000 ∧ WordsAt H l ∧
  LOut (Fr st) H Q (unp ⟨kept, r⟩ ns) fun s => ∀ q H', Fr st H H' → RowsAt H' q s.pairs → StAt st H' st s.tb.kept s.tb.room → Q (.ref q) H'
theorem WordsAt.frS {H H' : Hp} {l st av : Addr} {kept : List Pr} {r : Int} (h : WordsAt H l) (S : StAt av H st kept r) (f : Fr st H H') : WordsAt H' l := by
  obtain ⟨vs, h1, h2⟩ := h
  obtain ⟨lk, g1, _⟩ := id S
  exact ⟨vs, f l _ (ne_of h1 g1 (fun z => by cases z)) h1, h2.imp fun _ _ x => x.kt (f.kt S.nt)⟩
section
variable {P : Program} {w : World} {K : PySem.W.Frag} {mg : Str → Option Value} {base : Heap} {mt un hC hI hL hD aM aC aF : Addr}
theorem sc__law_unpack : FnScope ["_law_state", "_law_octets_here", "_law_words_here", "_law_pairs", "_law_at", "_law_rooms", "_law_turn", "_law_room", "_law_told"] ["_law_state", "_law_octets_here", "_law_words_here"] (defScope sLUnpack) := ⟨rfl, rfl, rfl, by decide +kernel, rfl, by decide +kernel, by decide +kernel⟩
theorem ok_lunpack {f : Addr} {fd : FuncData} (F : FnP K "_law_unpack" "_law_unpack" sLUnpack f fd) (T : Tx K mg mt un hC hI hL hD aM aC aF) (G__law_read : HasF P w K mg base CX0 1 "_law_read" ["_law_octets_here", "_law_at", "_law_n"] spRead)
    (G__law_fit : HasF P w K mg base CX0 2 "_law_fit" ["_law_kept", "_law_room"] spFit) (G__law_read_pair : HasF P w K mg base CX0 4 "_law_read_pair" ["_law_state", "_law_octets_here", "_law_at", "_law_words_here"] spLReadPair) : FnOk P w K mg base CX0 5 f fd ["_law_state", "_law_octets_here", "_law_words_here"] spLUnpack := by
  refine ok0 F sc__law_unpack (fun vs H Q E h => ?_) (fun cdv A outer s H vs Q E hr h => ?_)
  · obtain ⟨st, av, a, l, ns, kept, r, rfl, _⟩ := h
    rfl
  obtain ⟨st, av, a, l, ns, kept, r, rfl, S, tb, ha, oc, hl, W, ho⟩ := h
  have hu := Nat.lt_of_le_of_lt (Nat.add_le_add_left (show 1 ≤ 64 by decide) _) hr.units
  have hE : ∀ f, AheadE ns (s0 kept r) f → ∀ t H', Fr st H H' → H' t = some (.tup [.str (wS f.1), .int (f.2 : Int)]) → Q (.ref t) H' := fun f h => by
    rw [h.unp] at ho
    exact ho
  have nast : a ≠ st := by
    obtain ⟨lk, g1, _⟩ := id S
    exact ne_of ha g1 (fun z => by cases z)
  refine ⟨_, (pss_cons (ps_set (i := 3) sc__law_unpack.nd rfl (Or.inl rfl) (pe_lst pa_nil)) (pss_cons (ps_set (i := 4) sc__law_unpack.nd rfl (Or.inl rfl) pe_int) (pss_cons (ps_set (i := 5) sc__law_unpack.nd rfl (Or.inl rfl) pe_int) (pss_cons (ps_for PassesOwn.never rfl (pi_range1 rfl T.range (pa_cons (pe_callB call_len_seq (by rfl) T.len (by decide +kernel) (pa_cons (pv 1) pa_nil)) pa_nil)) (pg_name (i := 6) sc__law_unpack.nd rfl (Or.inl rfl)) (pss_one (ps_if (pt_cmpR op_lt (pv 4) (pe_callB call_len_seq (by rfl) T.len (by decide +kernel) (pa_cons (pv 1) pa_nil)) (nomark _)) (pss_one (ps_if (pt_cmpR op_eq (pe_op op_and (pe_ix ix_list (pv 1) (pv 4) (fun _ _ => rfl)) pe_int) pe_int (nomark _)) (pss_cons (ps_if (PW.pt (pw_or (pt_cmpR op_gt (pe_callB call_len_seq (by rfl) T.len (by decide +kernel) (pa_cons (pv 3) pa_nil)) pe_int (nomark _)) (pw_or1 (pt_cmpR op_gt (pv 5) pe_int (nomark _))))) (pss_one (ps_ret (pe_tup (pa_cons pe_str (pa_cons (pv 4) pa_nil))))) pss_nil) (pss_cons (ps_set (i := 7) sc__law_unpack.nd rfl (Or.inl rfl) (pe_f G__law_read (hr.mono (by decide)) pass0 (pa_cons (pv 1) (pa_cons (pv 4) (pa_cons pe_int pa_nil))))) (pss_cons (ps_if (pt_val (pe_callB call_isi (by rfl) T.isinstance (by decide +kernel) (pa_cons (pe_ix ix_tup (pv 7) pe_int (fun _ _ => rfl)) (pa_cons (pe_bltn (v := .ty "str") (u := .type "str") (by rfl) T.str (by decide +kernel) rfl) pa_nil)))) (pss_one (ps_ret (pv 7))) pss_nil) (pss_cons (ps_if (pt_cmpR op_gt (pe_ix ix_tup (pv 7) pe_int (fun _ _ => rfl)) pe_int (nomark _)) (pss_one (ps_ret (pe_tup (pa_cons pe_str (pa_cons (pv 4) pa_nil))))) pss_nil) (pss_cons (ps_set (i := 5) sc__law_unpack.nd rfl (Or.inl rfl) (pe_op op_add (pv 5) pe_int)) (pss_cons (ps_dput hu (pv 0) pe_str (pe_ix ix_tup (pv 7) pe_int (fun _ _ => rfl)) rfl) (pss_cons (ps_dput hu (pv 0) pe_str (pe_f G__law_fit (hr.mono (by decide)) pass0 (pa_cons (pe_dget hu (pv 0) pe_str (fun _ _ => rfl)) (pa_cons (pe_ix ix_tup (pv 7) pe_int (fun _ _ => rfl)) pa_nil))) rfl) (pss_one (ps_set (i := 4) sc__law_unpack.nd rfl (Or.inl rfl) (pe_ix ix_tup (pv 7) pe_int (fun _ _ => rfl))))))))))) (pss_cons (ps_set (i := 8) sc__law_unpack.nd rfl (Or.inl rfl) (pe_f G__law_read_pair (hr.mono (by decide)) pass0 (pa_cons (pv 0) (pa_cons (pv 1) (pa_cons (pv 4) (pa_cons (pv 2) pa_nil)))))) (pss_cons (ps_if (pt_val (pe_callB call_isi (by rfl) T.isinstance (by decide +kernel) (pa_cons (pe_ix ix_tup (pv 8) pe_int (fun _ _ => rfl)) (pa_cons (pe_bltn (v := .ty "str") (u := .type "str") (by rfl) T.str (by decide +kernel) rfl) pa_nil)))) (pss_one (ps_ret (pv 8))) pss_nil) (pss_cons (ps_expr (pe_bm PySem.F.plainAttrs_list PySem.F.slot_list_append PySem.F.type_list_append mt_append (pv 3) (pa_cons (pe_ix ix_tup (pv 8) pe_int (fun _ _ => rfl)) pa_nil))) (pss_one (ps_set (i := 4) sc__law_unpack.nd rfl (Or.inl rfl) (pe_ix ix_tup (pv 8) pe_int (fun _ _ => rfl))))))))) pss_nil))) (pss_one (ps_ret (pv 3))))))), ?_⟩
  refine ⟨Nat.zero_le _, fun L hL0 => ?_⟩
  have nLst : L ≠ st := by
    obtain ⟨lk, g1, _⟩ := id S
    exact Ne.symm (ne_of_none g1 hL0)
  have naL : a ≠ L := ne_of_none ha hL0
  have s1 := Same.nw (o := .lst []) hL0
  refine ⟨_, rfl, a, _, rfl, .inl (SqL.of (s1 _ _ ha)), _, rfl, by rw [List.length_map]; omega, by rw [List.length_map]; omega, ?_⟩
  refine for_range (lo := 0) (n := (((ns.map V.int).length : Nat) : Int).toNat) (fun i σ' H' => ∃ (s : BR.St) (ls : List V) (x y z : Option V), i ≤ s.at_ ∧ s.at_ ≤ ns.length ∧ σ' = [some (.ref st), some (.ref a), some (.ref l), some (.ref L), some (.int (s.at_ : Int)), some (.int (s.rooms : Int)), x, y, z] ∧
      Ahead ns (s0 kept r) s ∧ TbOk s.tb ∧ s.pairs.length ≤ s.at_ ∧ H' L = some (.lst ls) ∧ All2 (TP H') ls s.pairs ∧ StAt L H' st s.tb.kept s.tb.room ∧ Fr st H H') ⟨s0 kept r, [], none, none, none, Nat.zero_le _, Nat.zero_le _, rfl, Ahead.refl _ _, tb, Nat.zero_le _, upd_same, .nil, S.shun hL0, Fr.of s1⟩ ?_ ?_
  · rintro i σ' H1 hi ⟨s, ls, x, y, z, il, le, rfl, A1, tb1, lp, hls, al, S1, f1⟩
    have ha1 := f1 a _ nast ha
    have W1 := W.frS S f1
    refine ⟨_, rfl, _, rfl, a, _, rfl, .inl (SqL.of ha1), _, _, rfl, rfl, _, rfl, ?_⟩
    rw [List.length_map]
    refine ite2 (fun c1 => ?_) (fun c1 => ?_)
    rotate_left
    · have c1' : ¬ s.at_ < ns.length := fun z => c1 (decide_eq_true (by omega))
      rw [List.length_map] at hi
      exact ⟨s, ls, _, y, z, by omega, le, rfl, A1, tb1, lp, hls, al, S1, f1⟩
    have lt : s.at_ < ns.length := by
      have := of_decide_eq_true c1
      omega
    obtain ⟨o, eo⟩ : ∃ o, ns[s.at_]? = some o := ⟨_, List.getElem?_eq_getElem lt⟩
    have eg : ns.getD s.at_ 0 = o := by rw [List.getD_eq_getElem?_getD, eo]; rfl
    have oo := oc o (List.mem_of_getElem? eo)
    refine ⟨_, rfl, _, rfl, a, _, _, _, rfl, rfl, SqL.of ha1, atI_nat (at_map eo), _, _, rfl, rfl, rfl, _, rfl, ?_⟩
    show (if decide (V.int (Builtin.bitAnd o 224) = V.int 32) = true then _ else _)
    rw [maskB oo.1 oo.2]
    refine ite2 (fun c2 => ?_) (fun c2 => ?_)
    · have rm : isRoom (ns.getD s.at_ 0) := eg.symm ▸ of_decide_eq_true c2
      refine ⟨_, rfl, L, _, rfl, .inl (SqL.of hls), _, _, rfl, rfl, _, rfl, ?_⟩
      have bad : s.pairs ≠ [] ∨ s.rooms > 1 → AheadE ns (s0 kept r) (.room, s.at_) := fun z => A1.err lt (by
        unfold step
        rw [if_pos rm, if_pos z])
      have ell := al.length
      refine ite2 (fun c3 => ?_) (fun c3 => ?_)
      · have c3' : (0 : Int) < (ls.length : Int) := of_decide_eq_true c3
        refine iteT ⟨_, rfl, by show 2 ≤ sizeLine; decide, fun y hy => ?_⟩
        refine hE _ (bad (.inl fun z => ?_)) y _ (f1.newer hy) upd_same
        rw [z] at ell
        have : ls.length = 0 := ell
        omega
      have c3' : s.pairs = [] := by
        have : ¬ (0 : Int) < (ls.length : Int) := fun z => c3 (decide_eq_true z)
        exact List.eq_nil_of_length_eq_zero (by omega)
      refine ⟨_, rfl, _, _, rfl, rfl, _, rfl, ite2 (fun c4 => ?_) (fun c4 => ?_)⟩
      · have c4' : (1 : Int) < (s.rooms : Int) := of_decide_eq_true c4
        refine ⟨_, rfl, by show 2 ≤ sizeLine; decide, fun y hy => ?_⟩
        exact hE _ (bad (.inr (by omega))) y _ (f1.newer hy) upd_same
      have c4' : ¬ (1 : Int) < (s.rooms : Int) := fun z => c4 (decide_eq_true z)
      have es : step ns s = match rdInt ns s.at_ 5 with
        | .error e => .error e
        | .ok (n, q) => if n > 4096 then .error (.room, s.at_) else .ok ⟨q, s.rooms + 1, s.pairs, fit s.tb.kept n, n⟩ := by
        unfold step
        rw [if_pos rm, if_neg (by rw [c3']; rintro (z | z); exact z rfl; omega)] <;> rfl
      refine ⟨_, rfl, _, rfl, a, ns, s.at_, 5, rfl, ha1, hl, by decide, ?_⟩
      cases e : rdInt ns s.at_ 5 with
      | error x =>
        rw [e] at es
        intro t H2 s2 h2
        refine ⟨_, rfl, t, _, _, _, rfl, rfl, SqT.of h2, rfl, _, _, _, _, true, rfl, .ty _, .base (.str _), k_ss, _, rfl, iteT ⟨_, rfl, ?_⟩⟩
        exact hE x (A1.err lt es) t H2 (f1.trans (Fr.of s2)) h2
      | ok z =>
        obtain ⟨n, q⟩ := z
        rw [e] at es
        dsimp only at es
        intro t H2 s2 h2
        refine ⟨_, rfl, t, _, _, _, rfl, rfl, SqT.of h2, rfl, _, _, _, _, false, rfl, .ty _, .base (.int _), k_is, _, rfl, iteF ?_⟩
        refine ⟨_, rfl, t, _, _, _, rfl, rfl, SqT.of h2, rfl, _, _, rfl, rfl, _, rfl, ite2 (fun c5 => ?_) (fun c5 => ?_)⟩
        · have c5' : n > 4096 := of_decide_eq_true c5
          rw [if_pos c5'] at es
          refine ⟨_, rfl, by show 2 ≤ sizeLine; decide, fun y hy => ?_⟩
          exact hE _ (A1.err lt es) y _ ((f1.trans (Fr.of s2)).newer hy) upd_same
        have c5' : ¬ n > 4096 := fun z => c5 (decide_eq_true z)
        rw [if_neg c5'] at es
        obtain ⟨lk, g1, g2, g3, g4⟩ := id (S1.same s2)
        have hls2 := s2 _ _ hls
        refine ⟨_, rfl, _, _, rfl, rfl, ?_⟩
        refine ⟨_, rfl, t, _, _, _, rfl, rfl, SqT.of h2, rfl, _, rfl, st, _, rfl, StAt.putR g1, ?_⟩
        have lkst : lk ≠ st := by
          obtain ⟨lv, i1, _⟩ := id g2
          exact ne_of i1 g1 (fun z => by cases z)
        have kt3 : KT H2 (upd H2 st (.dK [(.inr "kept", .ref lk), (.inr "room", .int n)])) := (Fr.own).kt (nt_dK g1)
        have R3 : RowsAt (upd H2 st (.dK [(.inr "kept", .ref lk), (.inr "room", .int n)])) lk s.tb.kept := by
          obtain ⟨lv, i1, i2⟩ := id g2
          exact ⟨lv, (upd_ne lkst).trans i1, i2.imp fun _ _ x => x.kt kt3⟩
        refine ⟨_, rfl, st, _, rfl, StAt.getK upd_same, _, rfl, t, _, _, _, rfl, rfl, SqT.of (kt3 _ _ h2), rfl, lk, s.tb.kept, n, rfl, R3, tb1.len, fun nl H4 s4 n4 R4 => ?_⟩
        have g14 := s4 _ _ (upd_same (H := H2) (a := st) (o := .dK [(.inr "kept", .ref lk), (.inr "room", .int n)]))
        refine ⟨_, rfl, st, _, rfl, StAt.putK g14, ?_⟩
        have kt5 : KT H4 (upd H4 st (.dK [(.inr "kept", .ref nl), (.inr "room", .int n)])) := (Fr.own).kt (nt_dK g14)
        have kt25 := (kt3.trans s4.kt).trans kt5
        have f25 : Fr st H2 (upd H4 st (.dK [(.inr "kept", .ref nl), (.inr "room", .int n)])) := ((Fr.own).trans (Fr.of s4)).owner
        have nlst : nl ≠ st := by
          obtain ⟨lv, i1, _⟩ := id R4
          exact ne_of i1 g14 (fun z => by cases z)
        refine ⟨_, rfl, t, _, _, _, rfl, rfl, SqT.of (kt25 _ _ h2), rfl, ?_⟩
        refine ⟨⟨q, s.rooms + 1, s.pairs, fit s.tb.kept n, n⟩, ls, _, _, _, ?_, (rdInt_ok e).2.2, rfl, A1.more lt es, step_tb tb1 es, ?_, f25 L _ nLst hls2, (al.imp fun _ _ x => x.kt s2.kt).imp fun _ _ x => x.kt kt25, ?_, (f1.trans (Fr.of s2)).trans f25⟩
        · have := (rdInt_ok e).2.1
          show i + 1 ≤ q
          omega
        · have := (rdInt_ok e).2.1
          show s.pairs.length ≤ q
          omega
        · have tk3 : Trk (upd H2 st (.dK [(.inr "kept", .ref lk), (.inr "room", .int n)])) L := g4.fr Fr.own upd_same
          refine ⟨nl, upd_same, ?_, tk3.ne n4, (tk3.same s4).fr Fr.own upd_same⟩
          obtain ⟨lv, i1, i2⟩ := id R4
          exact ⟨lv, (upd_ne nlst).trans i1, i2.imp fun _ _ x => x.kt kt5⟩
    · have rm : ¬ isRoom (ns.getD s.at_ 0) := fun z => c2 (decide_eq_true (eg ▸ z))
      have es : step ns s = match rdPair s.tb ns s.at_ with
        | .error e => .error e
        | .ok (r, q, t) => .ok ⟨q, s.rooms, s.pairs ++ [r], t⟩ := by
        unfold step
        rw [if_neg rm] <;> rfl
      refine ⟨_, rfl, _, rfl, _, rfl, _, rfl, st, L, a, l, ns, s.at_, s.tb.kept, s.tb.room, rfl, S1, tb1.len, ha1, hl, W1, lt, ?_⟩
      cases e : rdPair s.tb ns s.at_ with
      | error x =>
        rw [e] at es
        intro t H2 f2 h2
        refine ⟨_, rfl, t, _, _, _, rfl, rfl, SqT.of h2, rfl, _, _, _, _, true, rfl, .ty _, .base (.str _), k_ss, _, rfl, iteT ⟨_, rfl, ?_⟩⟩
        exact hE x (A1.err lt es) t H2 (f1.trans f2) h2
      | ok z =>
        obtain ⟨pr, q, tb2⟩ := z
        rw [e] at es
        dsimp only at es
        have qq := rdPair_ok e
        intro t v H2 f2 S2 h2 tv
        obtain ⟨g, _, _, rfl, hg, _⟩ := id tv
        refine ⟨_, rfl, t, _, _, _, rfl, rfl, SqT.of h2, rfl, _, _, _, _, false, rfl, .ty _, .base (.tup hg), k_ts, _, rfl, iteF ?_⟩
        have hls2 := f2 L _ nLst hls
        refine ⟨_, rfl, .inl ⟨rfl, _, SqL.of hls2⟩, _, rfl, t, _, _, _, rfl, rfl, SqT.of h2, rfl, L, _, _, rfl, rfl, hls2, ?_, ?_⟩
        · rw [al.length]
          exact size_lt (by omega)
        have kl : KT H2 (upd H2 L (.lst (ls ++ [.ref g]))) := (Fr.own).kt (nt_lst hls2)
        refine ⟨_, rfl, t, _, _, _, rfl, rfl, SqT.of (kl _ _ h2), rfl, ?_⟩
        refine ⟨⟨q, s.rooms, s.pairs ++ [pr], tb2⟩, _, _, _, _, ?_, qq.2, rfl, A1.more lt es, step_tb tb1 es, ?_, upd_same, ?_, S2.at_av hls2, (f1.trans f2).put hL0⟩
        · show i + 1 ≤ q
          omega
        · rw [List.length_append, List.length_singleton]
          show _ ≤ q
          omega
        · exact (al.imp fun _ _ x => (x.kt (f2.kt S1.nt)).kt kl).append (.cons (tv.kt kl) .nil)
  · rintro σ' H1 ⟨s, ls, x, y, z, il, le, rfl, A1, tb1, lp, hls, al, S1, f1⟩
    rw [List.length_map] at il
    have e := A1.done (by omega) ns.length (Nat.le_refl _)
    unfold unp at ho
    rw [e] at ho
    exact ⟨_, rfl, ho L H1 f1 ⟨ls, hls, al⟩ S1.own⟩
end
end BR
/-! BrLaw6: law -/
namespace BR
open PySem PySem.Spec PyProof.Rows L2
/-- o.m(e, ..), what passes told by the slots -/
def tMeS (C : Addr) (m : Str) (sp : Sp) (E : L2.St → XK) (ta : TE) (t : TA) : TE := fun σ H Q => ta σ H fun x H1 => ∃ a dx fs, x = .ref a ∧ H1 a = some (.ins C dx fs) ∧ fs.lookup m = none ∧ t σ H1 fun vs H2 => sp (x :: vs) H2 Q (E σ)
section
variable {X : Cx} {CX : CXT} {k : Nat} {m : Str} {C : Addr} {ps : List Str} {sp : Sp} {E : L2.St → XK} {e o : Expr} {es : List Expr} {t : TA} {to : TE} {pos apos : Pos}
theorem pe_meS {pl : Sem Bool} (G : HasM X.prog X.w X.K X.mg X.base CX k C m ps sp) (c : Cls X.K C) (he : PE X o to) (hr : Room k X.A) (hx : ∀ σ, PassesAt CX X σ (E σ)) (ha : PA X (e :: es) t)
    (hst : starEach (e :: es) X.env = (false, eval e X.env) :: starEach es X.env := by rfl) (hpl : (backTo pos (starEach es X.env)).any (·.1) = false := by rfl)
    (ht : eval (.Call (.Attribute o m apos) (e :: es) [] pos) X.env = (do
      let ov ← eval o X.env
      standAt apos.atName
      let (f, first) ← holding [ov] (getMethod ov m pl)
      callWith pos f first (backTo pos (starEach (e :: es) X.env)) (backToKw pos (keywordEach [] X.env))) := by rfl) :
    PE X (.Call (.Attribute o m apos) (e :: es) [] pos) (tMeS C m sp E to t) := by
  obtain ⟨f, fd, F, hm, b⟩ := G.ex
  refine ⟨fun pins s σ H Q I h => PySem.W.methodCall_KW (pl := pl) (thn (he.run pins s σ H _ I h) fun u s1 ⟨x, H1, I1, rx, a, dx, fs, ex, ea, l, q⟩ => ?_) ht⟩
  subst ex
  obtain rfl : u = Value.ref a := rx
  exact getmeth_ok I1 ea c hm l (PySem.W.callWith_K (first := [.ref a]) (h₀ := X.base) I.ok.mod.kin hm.kp (thn (ha.run pos pins s1 σ H1 _ I1 q) fun us s2 ⟨vs, H2, I2, r, q2⟩ => ⟨I2.kIn, run_fnS (us := .ref a :: us) (vs := .ref a :: vs) F hr b (hx σ) I2 (.cons rfl r) q2⟩) hst hpl)
end
theorem op_eqDK {X : Cx} (K : PySem.W.Frag) (h : X.K = K) (hu : X.A.units + 64 < cLine) : OpR X (compareOp .Eq) (rEqD K) := by
  subst h
  exact op_eqD hu
def rTupK (K : PySem.W.Frag) : List V → Hp → VK → Prop := fun xs H Q => ∃ p ys, xs = [.ref p] ∧ ((SqL K H p ys ∧ ∀ l, H l = none → Q (.ref l) (upd H l (.tup ys))) ∨ (SqT K H p ys ∧ Q (.ref p) H))
theorem call_tuple_ofK {X : Cx} (K : PySem.W.Frag) (h : X.K = K) : CallR X (.type "tuple") (rTupK K) := by
  subst h
  exact call_tuple_of
theorem eqv_ints : ∀ ns : List Int, PyData.eqvAll (ns.map .int) (ns.map .int) = true
  | [] => by simp [PyData.eqvAll]
  | n :: ns => by simp [PyData.eqvAll, PyData.eqv, eqv_ints ns]
theorem eqv_rows : ∀ ps : List Pr, PyData.eqvAll (ps.map dP) (ps.map dP) = true
  | [] => by simp [PyData.eqvAll]
  | p :: ps => by simp [PyData.eqvAll, PyData.eqv, dP, dI, eqv_ints, eqv_rows ps]
theorem eqv_dR (ps : List Pr) : PyData.eqv (dR ps) (dR ps) = true := by
  unfold dR
  simp [PyData.eqv, eqv_rows]
theorem eqv_word (w : Str) (i : Int) : PyData.eqv (.tuple [.str w, .int i]) (.tuple [.str w, .int i]) = true := by simp [PyData.eqv, PyData.eqvAll]
theorem word_ok : ∀ w : Wd, PyData.strOk (wS w) = true
  | .short => by decide +kernel
  | .number => by decide +kernel
  | .row => by decide +kernel
  | .room => by decide +kernel
  | .code => by decide +kernel
theorem shaped_word (w : Wd) (i : Int) : SeqAt.shaped (.tuple [.str (wS w), .int i]) = true := by
  unfold SeqAt.shaped
  rw [Bool.and_eq_true_iff]
  exact ⟨by simp [PyData.canLay0, PyData.canLayAll0, word_ok], decide_eq_true (by simp [PyData.depth, PyData.depthAll])⟩
section
variable {H H' : Hp} {x l d c u m st av lk un mt : Addr} {ps kept : List Pr} {r : Int}
theorem RowsAt.fr (R : RowsAt H l ps) (f : Fr x H H') (n : l ≠ x) (nt : NT H x) : RowsAt H' l ps := by
  obtain ⟨ls, h1, h2⟩ := R
  exact ⟨ls, f _ _ n h1, h2.imp fun _ _ z => z.kt (f.kt nt)⟩
theorem RowsAt.draw (R : RowsAt H l ps) (D : DrawAt H d c) : l ≠ d := fun e => by
  obtain ⟨ls, h1, h2⟩ := R
  obtain ⟨cells, kk, cur, seed, hd, _⟩ := D
  rw [e, hd] at h1
  cases h1
  exact rowsV_ref h2 kk (.tail _ (.head _))
theorem DrawAt.frn (D : DrawAt H d c) (f : Fr x H H') (hx : ∀ xs, H x ≠ some (.lst xs)) : DrawAt H' d c := by
  obtain ⟨cells, kk, cur, seed, hd, hc, rest⟩ := D
  exact ⟨cells, kk, cur, seed, f _ _ (fun e => hx _ (e ▸ hd)) hd, f _ _ (fun e => hx _ (e ▸ hc)) hc, rest⟩
theorem WordsAt.frn (W : WordsAt H l) (f : Fr x H H') (hx : ∀ xs, H x ≠ some (.lst xs)) (nt : NT H x) : WordsAt H' l := by
  obtain ⟨vs, h1, h2⟩ := W
  exact ⟨vs, f _ _ (fun e => hx _ (e ▸ h1)) h1, h2.imp fun _ _ z => z.kt (f.kt nt)⟩
theorem MtAt.nl (M : MtAt mt av H m kept r) : ∀ xs, H m ≠ some (.lst xs) := fun xs e => by
  obtain ⟨dx, l, vs, h1, _⟩ := M
  rw [h1] at e
  cases e
theorem StAt.nl (S : StAt av H st kept r) : ∀ xs, H st ≠ some (.lst xs) := fun xs e => by
  obtain ⟨lk, h1, _⟩ := S
  rw [h1] at e
  cases e
theorem MtAt.ne_st {kept' : List Pr} {r' : Int} {av' : Addr} (M : MtAt mt av H m kept r) (S : StAt av' H st kept' r') : m ≠ st := by
  obtain ⟨dx, l, vs, h1, _⟩ := M
  obtain ⟨lk, h2, _⟩ := S
  exact ne_of h1 h2 (fun z => by cases z)
theorem MtAt.frn (M : MtAt mt m H m kept r) (f : Fr x H H') (n : m ≠ x) (nl : ∀ l, RowsAt H l kept → l ≠ x) (nt : NT H x) : MtAt mt m H' m kept r := by
  obtain ⟨dx, l, vs, h1, h2, h3, h4, h5⟩ := M
  exact ⟨dx, l, vs, f _ _ n h1, f _ _ (nl l ⟨vs, h2, h3⟩) h2, h3.imp fun _ _ z => z.kt (f.kt nt), h4, _, f _ _ n h1⟩
theorem StAt.frn (S : StAt st H st kept r) (f : Fr x H H') (n : st ≠ x) (nl : ∀ l, RowsAt H l kept → l ≠ x) (nt : NT H x) : StAt st H' st kept r := by
  obtain ⟨lk, h1, h2, h3, h4⟩ := S
  exact ⟨lk, f _ _ n h1, h2.fr f (nl lk h2) nt, h3, _, f _ _ n h1⟩
theorem UnAt.ne_st {kept' : List Pr} {r' : Int} {av' : Addr} (U : UnAt un H u m) (S : StAt av' H st kept' r') : u ≠ st := by
  obtain ⟨dx, h1⟩ := U
  obtain ⟨lk, h2, _⟩ := S
  exact ne_of h1 h2 (fun z => by cases z)
theorem UnAt.frn (U : UnAt un H u m) (f : Fr x H H') (n : u ≠ x) : UnAt un H' u m := by
  obtain ⟨dx, h1⟩ := U
  exact ⟨dx, f _ _ n h1⟩
theorem rows_nl (hx : ∀ xs, H x ≠ some (.lst xs)) : ∀ l, RowsAt H l kept → l ≠ x := fun l ⟨ls, h1, _⟩ e => hx ls (e ▸ h1)
end
/-- what holds at the beginning of a turn -/
structure LInv (un mt : Addr) (H : Hp) (d c l u m st : Addr) (kept : List Pr) (r : Int) : Prop where
  D : DrawAt H d c
  W : WordsAt H l
  U : UnAt un H u m
  M : MtAt mt m H m kept r
  S : StAt st H st kept r
  tb : TbOk ⟨kept, r⟩
theorem LInv.drawn {un mt : Addr} {H H' : Hp} {d c l u m st : Addr} {kept : List Pr} {r : Int} (L : LInv un mt H d c l u m st kept r) (f : Fr d H H') (D' : DrawAt H' d c) : LInv un mt H' d c l u m st kept r := by
  obtain ⟨D, W, U, M, S, tb⟩ := L
  obtain ⟨cells, kk, cur, seed, hd, hc, _⟩ := id D
  have nt : NT H d := nt_lst hd
  have nm : m ≠ d := fun e => M.nl _ (e ▸ hd)
  have ns : st ≠ d := fun e => S.nl _ (e ▸ hd)
  have nu : u ≠ d := fun e => by
    obtain ⟨dx, h1⟩ := U
    rw [e, hd] at h1
    cases h1
  have nl : ∀ l, RowsAt H l kept → l ≠ d := fun l R => R.draw D
  exact ⟨D', W.fr f (W.ne D) (f.kt nt), U.frn f nu, M.frn f nm nl nt, S.frn f ns nl nt, tb⟩
def spLaw (K : PySem.W.Frag) : Sp := fun vs H Q _ => ∃ (a : Addr) (ns : List Int), vs = [.ref a] ∧ SqL K H a (ns.map V.int) ∧ ns.length ≤ 63 ∧ ∀ H', Q (.bl true) H'
theorem takes_false {X : Cx} (W : WX) (h : ∀ a b c d, ¬ W a b c d) : L2.Takes X W := fun _ _ ⟨_, _, _, _, _, _, _, _, _, _, _, _, _, _, _, _, w⟩ => (h _ _ _ _ w).elim
section
variable {P : Program} {w : World} {K : PySem.W.Frag} {mg : Str → Option Value} {base : Heap} {mt un hC hI hL hD aM aC aF : Addr}
theorem sc_law : FnScope ["_law_script", "_law_draw_here", "_law_words_here", "_law_unpacker", "_law_state", "_law_turn", "_law_row", "_law_due", "_law_told", "e"] ["_law_script"] (defScope sLaw) := ⟨rfl, rfl, rfl, by decide +kernel, rfl, by decide +kernel, by decide +kernel⟩
theorem ok_law {f fU : Addr} {fd fdU : FuncData} (F : FnP K "law" "law" sLaw f fd) (T : Tx K mg mt un hC hI hL hD aM aC aF) (G__law_draw : HasF P w K mg base CX0 1 "_law_draw" ["_law_script"] (spDraw K)) (G__law_words : HasF P w K mg base CX0 2 "_law_words" [] spWords)
    (G__law_take : HasF P w K mg base CX0 1 "_law_take" ["_law_draw_here", "_law_many"] spTake) (G__law_block : HasF P w K mg base CX0 5 "_law_block" ["_law_draw_here", "_law_words_here"] (spPiece 4000)) (G__law_unpack : HasF P w K mg base CX0 5 "_law_unpack" ["_law_state", "_law_octets_here", "_law_words_here"] spLUnpack)
    (MkU : Mk K un fU) (GU : FnOk P w K mg base CX0 3 fU fdU ["self", "limit"] (spUnI un mt)) (bU : Binds K fdU ["self", "limit"] []) (M_unpack : HasM P w K mg base (L2.CX P w) 7 un "unpack" ["self", "octets"] (spUnpack un mt hC))
    (M_table : HasM P w K mg base CX0 1 un "table" ["self"] (spTable un)) (M_rows : HasM P w K mg base CX0 1 mt "rows" ["self"] (spMtRows mt)) (M_room : HasM P w K mg base CX0 1 mt "room" ["self"] (spMtRoom mt)) :
    FnOk P w K mg base CX0 8 f fd ["_law_script"] (spLaw K) := by
  refine ok0 F sc_law (fun vs H Q E h => ?_) (fun cdv A outer s H vs Q E hr h => ?_)
  · obtain ⟨a, ns, rfl, _⟩ := h
    rfl
  obtain ⟨a, ns, rfl, ha, hl, k⟩ := h
  have hu := Nat.lt_of_le_of_lt (Nat.add_le_add_left (show 1 ≤ 64 by decide) _) hr.units
  refine ⟨_, (pss_cons (ps_set (i := 1) sc_law.nd rfl (Or.inl rfl) (pe_f G__law_draw (hr.mono (by decide)) pass0 (pa_cons (pv 0) pa_nil))) (pss_cons (ps_set (i := 2) sc_law.nd rfl (Or.inl rfl) (pe_f0 G__law_words (hr.mono (by decide)) pass0)) (pss_cons (ps_set (i := 3) sc_law.nd rfl (Or.inl rfl) (pe_make MkU GU (hr.mono (by decide)) rfl T.gUn bU .nil pass0 (pa_cons pe_int pa_nil))) (pss_cons (ps_set (i := 4) sc_law.nd rfl (Or.inl rfl) (pe_disp (pps_cons pe_str (pe_lst pa_nil) (pps_cons pe_str pe_int pps_nil)) rfl rfl (by simp) (by simp))) (pss_cons (ps_for PassesOwn.never rfl (pi_range1 rfl T.range (pa_cons (pe_op op_add pe_int (pe_f G__law_take (hr.mono (by decide)) pass0 (pa_cons (pv 1) (pa_cons pe_int pa_nil)))) pa_nil)) (pg_name (i := 5) sc_law.nd rfl (Or.inl rfl)) (pss_cons (ps_set (i := 6) sc_law.nd rfl (Or.inl rfl) (pe_f G__law_block (hr.mono (by decide)) pass0 (pa_cons (pv 1) (pa_cons (pv 2) pa_nil)))) (pss_cons (ps_set (i := 7) sc_law.nd rfl (Or.inl rfl) (pe_f G__law_unpack (hr.mono (by decide)) pass0 (pa_cons (pv 4) (pa_cons (pv 6) (pa_cons (pv 2) pa_nil))))) (pss_cons (L2.ps_try_as (i := 9) (Wout := fun _ _ _ _ => False) rfl rfl sc_law.nd rfl rfl ⟨rfl, by decide, .inl T.hf.gC⟩ (takes_false _ fun _ _ _ _ z => z) (fun W pn xe tk _ => pss_one (ps_set (i := 8) sc_law.nd rfl (Or.inl rfl) (pe_meS M_unpack T.cUn (pv 3) (hr.mono (by decide)) (fun σ => L2.passAt tk σ) (pa_cons (pe_callTy (T := "tuple") (call_tuple_ofK K rfl) (by rfl) T.tuple (by decide +kernel) (pa_cons (pv 6) pa_nil)) pa_nil)))) (fun a oe cls d pn hz hf => pss_one (ps_ret (pe_cmpR (op_eqDK K rfl hr.units) (pv 7) (pe_tup (pa_cons (L2.pe_xf ⟨T.hf.ga, T.hf.gg, T.hf.exC, T.hf.hdC⟩ T.hf.noW hz hf (pv 9)) (pa_cons (L2.pe_xf ⟨T.hf.ga, T.hf.gg, T.hf.exC, T.hf.hdC⟩ T.hf.noA hz hf (pv 9)) pa_nil))) (nomark _))))) (pss_cons (ps_if (PW.pt (pw_or (pt_not (pt_val (pe_callB call_isi (by rfl) T.isinstance (by decide +kernel) (pa_cons (pv 7) (pa_cons (pe_bltn (v := .ty "list") (u := .type "list") (by rfl) T.list (by decide +kernel) rfl) pa_nil))))) (pw_or1 (pt_cmpR (op_neD hr.units) (pv 8) (pv 7) (nomark _))))) (pss_one (ps_ret pe_bl)) pss_nil) (pss_one (ps_if (PW.pt (pw_or (pt_cmpR (op_neD hr.units) (pe_me0 M_rows T.cMt (pe_me0 M_table T.cUn (pv 3) (hr.mono (by decide)) pass0) (hr.mono (by decide)) pass0) (pe_dget hu (pv 4) pe_str (fun _ _ => rfl)) (nomark _)) (pw_or1 (pt_cmpR op_ne (pe_me0 M_room T.cMt (pe_me0 M_table T.cUn (pv 3) (hr.mono (by decide)) pass0) (hr.mono (by decide)) pass0) (pe_dget hu (pv 4) pe_str (fun _ _ => rfl)) (nomark _))))) (pss_one (ps_ret pe_bl)) pss_nil))))))) (pss_one (ps_ret pe_bl))))))), ?_⟩
  refine ⟨_, rfl, a, ns, rfl, ha, hl, fun d c H1 s1 n1 D1 => ?_⟩
  refine ⟨rfl, fun l H2 s2 n2 W2 => ?_⟩
  have D2 := D1.same s2
  refine fun u du nu ndu neu => ⟨u, du, rfl, upd_same, fun m H3 f3 nm U3 M3 => ⟨rfl, ?_⟩⟩
  have s3 : Same H2 H3 := fun b o e => f3 b o (ne_of_none e nu) ((upd_ne (ne_of_none e nu)).trans ((upd_ne (ne_of_none e ndu)).trans e))
  have D3 := D2.same s3
  have W3 := W2.same s3
  refine fun st nst => ⟨Nat.zero_le _, fun lk nlk => ?_⟩
  have nsl : st ≠ lk := ne_of_none upd_same nlk
  refine ⟨(upd_ne nsl).trans upd_same, [(.inr "kept", .ref lk), (.inr "room", .int 4096)], rfl, by show 2 ≤ 15; decide, ?_⟩
  have s4 : Same H3 (upd (upd (upd H3 st (.dK [])) lk (.lst [])) st (.dK [(.inr "kept", .ref lk), (.inr "room", .int 4096)])) := ((Same.nw nst).nwr nlk).putN nst
  have S4 : StAt st (upd (upd (upd H3 st (.dK [])) lk (.lst [])) st (.dK [(.inr "kept", .ref lk), (.inr "room", .int 4096)])) st [] 4096 := ⟨lk, upd_same, ⟨[], by rw [upd_ne (Ne.symm nsl), upd_same], .nil⟩, Ne.symm nsl, _, upd_same⟩
  have L4 : LInv un mt (upd (upd (upd H3 st (.dK [])) lk (.lst [])) st (.dK [(.inr "kept", .ref lk), (.inr "room", .int 4096)])) d c l u m st [] 4096 := ⟨D3.same s4, W3.same s4, U3.same s4, M3.same s4, S4, by decide, by decide, by decide⟩
  refine ⟨_, rfl, d, c, 3, rfl, L4.D, by decide, by decide, fun v H5 v0 v1 f5 D5 => ⟨_, _, rfl, rfl, _, rfl, by omega, by omega, ?_⟩⟩
  have L5 := L4.drawn f5 D5
  refine for_range (lo := 0) (n := (1 + v).toNat) (fun i σ' H' => ∃ (kept : List Pr) (r : Int) (x1 x2 x3 x4 x5 : Option V), σ' = [some (.ref a), some (.ref d), some (.ref l), some (.ref u), some (.ref st), x1, x2, x3, x4, x5] ∧ LInv un mt H' d c l u m st kept r) ⟨_, _, none, none, none, none, none, rfl, L5⟩ ?_ ?_
  · rintro i σ' H6 hi ⟨kept, r, x1, x2, x3, x4, x5, rfl, L6⟩
    refine ⟨_, rfl, _, rfl, d, c, l, rfl, L6.D, L6.W, fun rw nb H7 f7 D7 hrw oc hlb => ?_⟩
    have L7 := L6.drawn f7 D7
    refine ⟨_, rfl, _, rfl, _, rfl, st, st, rw, l, nb, kept, r, rfl, L7.S, L7.tb, hrw, oc, by omega, L7.W, ?_⟩
    have ns : NT H7 st := L7.S.nt
    have nls := L7.S.nl
    cases e : unp ⟨kept, r⟩ nb with
    | error f =>
      intro t H8 f8 h8
      have D8 := L7.D.frn f8 nls
      have U8 := L7.U.frn f8 (L7.U.ne_st L7.S)
      have M8 := L7.M.frn f8 (L7.M.ne_st L7.S) (rows_nl nls) ns
      have hrw8 := f8 rw _ (fun z => nls _ (z ▸ hrw)) hrw
      obtain ⟨dx, hu8⟩ := id U8
      refine ⟨_, rfl, u, dx, _, rfl, hu8, unF_no _ (by decide +kernel) (by decide +kernel), _, rfl, rw, _, rfl, .inl ⟨SqL.of hrw8, fun tr htr => ?_⟩⟩
      have st8 := Same.nw (o := .tup (nb.map V.int)) htr
      refine ⟨u, m, m, _, nb, kept, r, rfl, U8.same st8, M8.same st8, L7.tb, ⟨tr, rfl, upd_same⟩, by omega, ?_⟩
      rw [e]
      intro dd H9 f9 h9
      have h89 := f9.tup (M8.same st8).nt (st8 _ _ h8)
      refine ⟨true, T.hf.te, fun _ g ng => ?_, fun z => nomatch z⟩
      refine ⟨_, rfl, _, rfl, rfl, rfl, dd, _, _, rfl, h9, rfl, _, rfl, rfl, rfl, dd, _, _, rfl, h9, rfl, by show 2 ≤ sizeLine; decide, fun p hp => ?_⟩
      refine ⟨.tuple [.str (wS f.1), .int (f.2 : Int)], .tuple [.str (wS f.1), .int (f.2 : Int)], .tup (SqT.of ((Same.nw hp) _ _ h89)) (.cons (.str _) (.cons (.int _) .nil)), .tup (SqT.of upd_same) (.cons (.str _) (.cons (.int _) .nil)), shaped_word _ _, shaped_word _ _, ?_⟩
      rw [eqv_word]
      exact k _
    | ok s2 =>
      intro q H8 f8 R8 S8
      have D8 := L7.D.frn f8 nls
      have W8 := L7.W.frn f8 nls ns
      have U8 := L7.U.frn f8 (L7.U.ne_st L7.S)
      have M8 := L7.M.frn f8 (L7.M.ne_st L7.S) (rows_nl nls) ns
      have hrw8 := f8 rw _ (fun z => nls _ (z ▸ hrw)) hrw
      obtain ⟨dx, hu8⟩ := id U8
      refine ⟨_, rfl, u, dx, _, rfl, hu8, unF_no _ (by decide +kernel) (by decide +kernel), _, rfl, rw, _, rfl, .inl ⟨SqL.of hrw8, fun tr htr => ?_⟩⟩
      have st8 := Same.nw (o := .tup (nb.map V.int)) htr
      have M8' := M8.same st8
      refine ⟨u, m, m, _, nb, kept, r, rfl, U8.same st8, M8', L7.tb, ⟨tr, rfl, upd_same⟩, by omega, ?_⟩
      rw [e]
      intro tl tv H9 f9 h9 a9 M9
      have nm : NT (upd H8 tr (.tup (nb.map V.int))) m := M8'.nt
      have nlm := M8'.nl
      have D9 := (D8.same st8).frn f9 nlm
      have W9 := (W8.same st8).frn f9 nlm nm
      have U9 := (U8.same st8).fr M8' f9
      have S9 := (S8.same st8).frn f9 (Ne.symm (M8'.ne_st (S8.same st8))) (rows_nl nlm) nm
      have R9 := (R8.same st8).fr f9 (rows_nl nlm q (R8.same st8)) nm
      have tb9 : TbOk s2.tb := run_tb L7.tb e
      obtain ⟨qv, hq, aq⟩ := id R9
      -- the heads
      refine ⟨_, rfl, _, _, _, _, true, rfl, .ty _, .base (.lst hq), k_ll, _, rfl, ?_⟩
      refine iteF ⟨_, rfl, _, rfl, dR s2.pairs, dR s2.pairs, Rows.dp h9 a9, Rows.dp hq aq, shaped_rows _, shaped_rows _, _, rfl, ?_⟩
      rw [eqv_dR]
      refine iteF ?_
      -- the table
      obtain ⟨dx9, hu9⟩ := id U9
      obtain ⟨dm, lm, lv, hm9, _⟩ := id M9
      obtain ⟨lk9, g1, ⟨gv, g2, g3⟩, g4⟩ := id S9
      refine ⟨_, rfl, u, dx9, _, rfl, hu9, unF_no _ (by decide +kernel) (by decide +kernel), u, m, rfl, U9, m, dm, _, rfl, hm9, mtF_no _ _ _ (by decide +kernel) (by decide +kernel) (by decide +kernel), m, m, _, _, rfl, M9, fun l10 v10 H10 s10 h10 a10 => ?_⟩
      have g1' := s10 _ _ g1
      refine ⟨_, rfl, st, _, rfl, StAt.getK g1', dR s2.tb.kept, dR s2.tb.kept, Rows.dp h10 a10, Rows.dp (s10 _ _ g2) (g3.imp fun _ _ z => z.kt s10.kt), shaped_rows _, shaped_rows _, _, rfl, ?_⟩
      rw [eqv_dR]
      refine iteF ?_
      have U10 := U9.same s10
      have M10 := M9.same s10
      refine ⟨_, rfl, u, dx9, _, rfl, s10 _ _ hu9, unF_no _ (by decide +kernel) (by decide +kernel), u, m, rfl, U10, m, dm, _, rfl, s10 _ _ hm9, mtF_no _ _ _ (by decide +kernel) (by decide +kernel) (by decide +kernel), m, m, _, _, rfl, M10, ?_⟩
      refine ⟨_, rfl, st, _, rfl, StAt.getR g1', rfl, _, rfl, ?_⟩
      have er : (!decide (V.int s2.tb.room = V.int s2.tb.room)) = false := by rw [decide_eq_true rfl]; rfl
      show (if (!decide (V.int s2.tb.room = V.int s2.tb.room)) = true then _ else _)
      rw [er]
      refine iteF ?_
      exact ⟨s2.tb.kept, s2.tb.room, _, _, _, _, _, rfl, D9.same s10, W9.same s10, U10, M10, S9.same s10, tb9⟩
  · rintro σ' H6 ⟨kept, r, x1, x2, x3, x4, x5, rfl, L6⟩
    exact k H6
end
end BR
/-! BrEnd: the promises over the head, the claim -/
namespace BR
open PySem PySem.Spec PyProof.Rows L2
abbrev TxK (K : PySem.W.Frag) (mg : Str → Option Value) : Prop := Tx K mg (He.ga K "MovingTable") (He.ga K "Unpacker") (hfC K) (hfI K) (hfCell K) (hfCode K) (He.ga K "MARKS") (He.ga K "CLASSES") (He.ga K "FIXED")
abbrev TbK (K : PySem.W.Frag) : Prop := Tb0 K (He.ga K "MARKS") (He.ga K "CLASSES") (He.ga K "FIXED")
theorem class_rows : ∀ i, i < 5 → classesV.getD i [] = (classesI.getD i []).map V.int
  | 0, _ => rfl
  | 1, _ => rfl
  | 2, _ => rfl
  | 3, _ => rfl
  | 4, _ => rfl
  | n + 5, h => absurd h (by omega)
theorem fixed_rows : ∀ i, i < 23 → fixedL[i]? = some (octs (fixS.getD i ("", "")).1, octs (fixS.getD i ("", "")).2) ∧ (fixS.getD i ("", "")).1.cps.size ≤ 1000 ∧ (fixS.getD i ("", "")).2.cps.size ≤ 1000 := by decide +kernel
theorem fixed_vals (i : Nat) (h : i < fixS.length) : fixedV.getD i [] = [.str (fixS.getD i ("", "")).1, .str (fixS.getD i ("", "")).2] := by
  unfold fixedV
  rw [List.getD_eq_getElem?_getD, List.getElem?_map, List.getD_eq_getElem?_getD, List.getElem?_eq_getElem h]
  rfl
theorem its_at {K : PySem.W.Frag} {x : Str} {n i : Nat} {t : Addr} (h : ((List.range n).map fun i => itA K (He.ga K x) i)[i]? = some t) : i < n ∧ t = itA K (He.ga K x) i := by
  rw [List.getElem?_map] at h
  by_cases c : i < n
  · rw [List.getElem?_range c] at h
    cases h
    exact ⟨c, rfl⟩
  · rw [List.getElem?_eq_none (by rw [List.length_range]; omega)] at h
    cases h
theorem its_map {K : PySem.W.Frag} {x : Str} {n : Nat} : (((List.range n).map fun i => itA K (He.ga K x) i).map V.ref) = (List.range n).map fun i => V.ref (itA K (He.ga K x) i) := by
  rw [List.map_map]
  rfl
theorem tbK {K : PySem.W.Frag} (e : exB K = true) : TbK K := by
  obtain ⟨e1, e⟩ := He.ba e
  obtain ⟨e2, e⟩ := He.ba e
  obtain ⟨e3, _⟩ := He.ba e
  refine ⟨fun H => tupG_ok e1 H, ⟨(List.range 5).map fun i => itA K (He.ga K "CLASSES") i, by rw [List.length_map, List.length_range], fun H => ⟨?_, fun i t ht => ?_⟩⟩, ⟨(List.range 23).map fun i => itA K (He.ga K "FIXED") i, by rw [List.length_map, List.length_range], fun H => ⟨?_, fun i t ht => ?_⟩⟩⟩
  · rw [its_map]
    exact (tupsG_ok e2 H).1
  · obtain ⟨hi, rfl⟩ := its_at ht
    rw [← class_rows i hi]
    exact (tupsG_ok e2 H).2 i hi
  · rw [its_map]
    exact (tupsG_ok e3 H).1
  · obtain ⟨hi, rfl⟩ := its_at ht
    have q := (tupsG_ok e3 H).2 i hi
    rw [fixed_vals i hi] at q
    obtain ⟨f1, f2, f3⟩ := fixed_rows i hi
    exact ⟨_, _, q, f2, f3, f1⟩
theorem hfK {K : PySem.W.Frag} {h : Heap} {mg : Str → Option Value} (c : He.SaysD faL fnL K) (X : K.In h) (G : h.Ns mainGlobals mg) (e : exB K = true) (hw : hfW K = hfV) : HF K mg (hfC K) (hfI K) (hfCell K) (hfCode K) := by
  obtain ⟨_, e⟩ := He.ba e
  obtain ⟨_, e⟩ := He.ba e
  obtain ⟨_, e⟩ := He.ba e
  obtain ⟨b1, e⟩ := He.ba e
  obtain ⟨b2, b3⟩ := He.ba e
  unfold hfB2 at b2
  obtain ⟨a1, b2⟩ := He.ba b2
  obtain ⟨a2, b2⟩ := He.ba b2
  obtain ⟨a3, b2⟩ := He.ba b2
  obtain ⟨a4, b2⟩ := He.ba b2
  obtain ⟨a5, b2⟩ := He.ba b2
  obtain ⟨a6, b2⟩ := He.ba b2
  obtain ⟨a7, b2⟩ := He.ba b2
  obtain ⟨a8, b2⟩ := He.ba b2
  obtain ⟨a9, b2⟩ := He.ba b2
  obtain ⟨a10, b2⟩ := He.ba b2
  obtain ⟨a11, b2⟩ := He.ba b2
  obtain ⟨a12, b2⟩ := He.ba b2
  obtain ⟨a13, b2⟩ := He.ba b2
  obtain ⟨a14, b2⟩ := He.ba b2
  obtain ⟨a15, a16⟩ := He.ba b2
  unfold hfB3 at b3
  obtain ⟨c1, c2⟩ := He.ba b3
  obtain ⟨c2, c3⟩ := He.ba c2
  have fn : ∃ (oc : Value) (od : Option Addr) (kV doc pm : Value) (an : Option Addr) (ct : Value) (osl : Array (Option Value)),
    K.lookup (hfI K) = some ⟨oc, od, .func (PySem.W.fnX "__init__" "HeadFault.__init__" (L2.defArgs sHfI) (L2.defBody sHfI) (L2.defScope sHfI) [("__class__", hfCell K)] .none kV doc pm an (.ref (hfCode K)) ct), osl⟩ ∧ PySem.W.codeIn K (.ref (hfCode K)) "HeadFault.__init__" = true := by
    unfold hfW He.fnW at hw
    rw [show He.fAd K ("HeadFault", some "__init__") = hfI K from rfl] at hw
    cases q : K.lookup (hfI K) with
    | none =>
      rw [q] at c1
      cases c1
    | some o =>
      obtain ⟨oc, od, dt, osl⟩ := o
      rw [q] at c1 hw
      cases dt with
      | func fd =>
        rcases fd with ⟨n1, n2, n3, n4, n5, n6, n7, n8, n9, n10, n11, n12, n13, n14, n15⟩
        have e2 : (some (n1, n2, n3, n4, n5, n6, [], n15) : He.FnW) = some (("__init__" : Str), ("HeadFault.__init__" : Str), defArgs sHfI, FuncBody.stmts (defBody sHfI), defScope sHfI, mainGlobals, [], builtinsNs) := hw
        rw [Option.some.injEq] at e2; simp only [Prod.mk.injEq] at e2
        obtain ⟨h1, h2, h3, h4, h5, h6, _, h8⟩ := e2
        dsimp only at c1
        obtain ⟨g1, r1⟩ := He.ba c1
        obtain ⟨g2, r2⟩ := He.ba r1
        obtain ⟨g3, g4⟩ := He.ba r2
        have h7 := of_decide_eq_true g1
        have h13 := of_decide_eq_true g2
        have hn8 : n8 = .none := by
          cases n8 <;> first | rfl | cases g4
        subst h1 h2 h3 h4 h5 h6 h8 h7 h13 hn8
        exact ⟨oc, od, n9, n10, n11, n12, n14, osl, rfl, g3⟩
      | _ => cases c1
  obtain ⟨oc, od, kV, doc, pm, an, ct, osl, f1, f2⟩ := fn
  refine ⟨He.glo_ok X G (c.fact 14 (f := .glo "HeadFault") rfl), ?_, He.eqO_ok a1, He.eqO_ok a2, He.eqO_ok a3, He.eqO_ok a4, He.eqO_ok a5, He.eqO_ok a6, of_decide_eq_true a7, a8, of_decide_eq_true a9, of_decide_eq_true a10, of_decide_eq_true a11, a12, of_decide_eq_true a13, of_decide_eq_true a14, of_decide_eq_true a15, of_decide_eq_true a16,
    ⟨oc, od, kV, doc, pm, an, ct, osl, f1⟩, f2, ?_, ?_, He.free_ok X G (c.fact 13 (f := .free "super") rfl)⟩
  · unfold hfB1 at b1
    split at b1
    · rename_i c0 dd cd sl ho
      split at b1
      · rename_i k0 k1 k2 k3 n k5 hs
        obtain ⟨d1, b1⟩ := He.ba b1
        obtain ⟨d2, b1⟩ := He.ba b1
        obtain ⟨d3, b1⟩ := He.ba b1
        obtain ⟨d4, d5⟩ := He.ba b1
        rcases cd with ⟨nm, bs, mro, ns, qn, hd, sn, sub, ab, col, del⟩
        have d1 := of_decide_eq_true d1
        have d2 := of_decide_eq_true d2
        have d3 := of_decide_eq_true d3
        dsimp only at d3 d4 d5
        have d6 : del = false := by
          cases del with
          | true => cases d4
          | false => rfl
        have hsl : #[k0, k1, k2, k3, some (.builtin n), k5] = sl := by
          obtain ⟨l⟩ := sl
          simp only at hs
          rw [← hs]
        subst d1 d2 d3 d5 d6 hsl
        exact ⟨nm, qn, ns, bs, sn, sub, ab, col, dd, k0, k1, k2, k3, k5, ho⟩
      · cases b1
    · cases b1
  · split at c3
    · rename_i cl od2 vs sl ho
      split at c3
      · rename_i z tz hz
        have := of_decide_eq_true c3
        subst this
        exact ⟨cl, od2, vs, sl, tz, ho, hz⟩
      · cases c3
    · cases c3
  · split at c2
    · rename_i cl od2 D sl ho
      have := of_decide_eq_true c2
      subst this
      exact ⟨cl, od2, sl, ho⟩
    · cases c2
theorem txK {K : PySem.W.Frag} {h : Heap} {mg : Str → Option Value} (c : He.SaysD faL fnL K) (X : K.In h) (G : h.Ns mainGlobals mg) (HFK : HF K mg (hfC K) (hfI K) (hfCell K) (hfCode K)) : TxK K mg :=
  { len := He.free_ok X G (c.fact 0 (f := .free "len") rfl),
    range := He.free_ok X G (c.fact 1 (f := .free "range") rfl),
    tuple := He.free_ok X G (c.fact 2 (f := .free "tuple") rfl),
    list := He.free_ok X G (c.fact 3 (f := .free "list") rfl),
    int := He.free_ok X G (c.fact 4 (f := .free "int") rfl),
    abs := He.free_ok X G (c.fact 5 (f := .free "abs") rfl),
    ord := He.free_ok X G (c.fact 6 (f := .free "ord") rfl),
    sum := He.free_ok X G (c.fact 7 (f := .free "sum") rfl),
    min := He.free_ok X G (c.fact 8 (f := .free "min") rfl),
    max := He.free_ok X G (c.fact 9 (f := .free "max") rfl),
    isinstance := He.free_ok X G (c.fact 10 (f := .free "isinstance") rfl),
    str := He.free_ok X G (c.fact 11 (f := .free "str") rfl),
    END := He.int_ok X G (c.fact 51 (f := .int "END" 256) rfl),
    LETTERS := He.int_ok X G (c.fact 52 (f := .int "LETTERS" 26) rfl),
    DIGITS := He.int_ok X G (c.fact 53 (f := .int "DIGITS" 36) rfl),
    PLAIN := He.int_ok X G (c.fact 54 (f := .int "PLAIN" 45) rfl),
    NAMED := He.int_ok X G (c.fact 55 (f := .int "NAMED" 71) rfl),
    EXTRA := He.int_ok X G (c.fact 56 (f := .int "EXTRA" 32) rfl),
    GREATEST := He.int_ok X G (c.fact 57 (f := .int "GREATEST" 2147483647) rfl),
    MORE := He.int_ok X G (c.fact 58 (f := .int "MORE" 5) rfl),
    MARKS := He.glo_ok X G (c.fact 15 (f := .glo "MARKS") rfl),
    CLASSES := He.glo_ok X G (c.fact 16 (f := .glo "CLASSES") rfl),
    FIXED := He.glo_ok X G (c.fact 17 (f := .glo "FIXED") rfl),
    gMt := He.glo_ok X G (c.fact 18 (f := .glo "MovingTable") rfl),
    gUn := He.glo_ok X G (c.fact 19 (f := .glo "Unpacker") rfl),
    cMt := He.cls_ok (c.fact 75 (f := .cls "MovingTable") rfl),
    cUn := He.cls_ok (c.fact 76 (f := .cls "Unpacker") rfl),
    nBound := He.noat_ok (c.fact 59 (f := .noat "MovingTable" "bound") rfl),
    nTotal := He.noat_ok (c.fact 60 (f := .noat "MovingTable" "total") rfl),
    nKept := He.noat_ok (c.fact 61 (f := .noat "MovingTable" "kept") rfl),
    nLimit := He.noat_ok (c.fact 62 (f := .noat "Unpacker" "limit") rfl),
    nRows := He.noat_ok (c.fact 63 (f := .noat "Unpacker" "rows") rfl),
    hf := HFK }
section
variable {P : Program} {w : World} {K : PySem.W.Frag} {h : Heap} {mg : Str → Option Value} {base : Heap}
theorem gF__law_take (c : He.SaysD faL fnL K) (X : K.In h) (G : h.Ns mainGlobals mg) (T : TxK K mg) (TB : TbK K) (HP : HFP P) : HasF P w K mg base CX0 1 "_law_take" ["_law_draw_here", "_law_many"] spTake := by
  obtain ⟨fd, F⟩ := c.def_ 23 (d := dD "_law_take" sTake) rfl
  exact ⟨_, fd, (ok_take F T), He.glo_ok X G (c.fact 30 (f := .glo "_law_take") rfl), F.kp, (F.bindsN fun _ _ _ _ _ _ us hl => match us, hl with | [_, _], _ => rfl)⟩
theorem gF__law_draw (c : He.SaysD faL fnL K) (X : K.In h) (G : h.Ns mainGlobals mg) (T : TxK K mg) (TB : TbK K) (HP : HFP P) : HasF P w K mg base CX0 1 "_law_draw" ["_law_script"] (spDraw K) := by
  obtain ⟨fd, F⟩ := c.def_ 22 (d := dD "_law_draw" sDraw) rfl
  exact ⟨_, fd, (ok_draw F T), He.glo_ok X G (c.fact 29 (f := .glo "_law_draw") rfl), F.kp, (F.bindsN fun _ _ _ _ _ _ us hl => match us, hl with | [_], _ => rfl)⟩
theorem gF__law_int (c : He.SaysD faL fnL K) (X : K.In h) (G : h.Ns mainGlobals mg) (T : TxK K mg) (TB : TbK K) (HP : HFP P) : HasF P w K mg base CX0 1 "_law_int" ["_law_n", "_law_value", "_law_first"] spInt := by
  obtain ⟨fd, F⟩ := c.def_ 24 (d := dD "_law_int" sInt) rfl
  exact ⟨_, fd, (ok_int F T), He.glo_ok X G (c.fact 31 (f := .glo "_law_int") rfl), F.kp, (F.bindsN fun _ _ _ _ _ _ us hl => match us, hl with | [_, _, _], _ => rfl)⟩
theorem gF__law_octets (c : He.SaysD faL fnL K) (X : K.In h) (G : h.Ns mainGlobals mg) (T : TxK K mg) (TB : TbK K) (HP : HFP P) : HasF P w K mg base CX0 1 "_law_octets" ["_law_text"] spOctets := by
  obtain ⟨fd, F⟩ := c.def_ 30 (d := dD "_law_octets" sOctets) rfl
  exact ⟨_, fd, (ok_octets F T), He.glo_ok X G (c.fact 37 (f := .glo "_law_octets") rfl), F.kp, (F.bindsN fun _ _ _ _ _ _ us hl => match us, hl with | [_], _ => rfl)⟩
theorem gF__law_wide (c : He.SaysD faL fnL K) (X : K.In h) (G : h.Ns mainGlobals mg) (T : TxK K mg) (TB : TbK K) (HP : HFP P) : HasF P w K mg base CX0 2 "_law_wide" ["_law_draw_here", "_law_row"] spWide := by
  obtain ⟨fd, F⟩ := c.def_ 39 (d := dD "_law_wide" sWide) rfl
  exact ⟨_, fd, (ok_wide F T (gF__law_take c X G T TB HP)), He.glo_ok X G (c.fact 46 (f := .glo "_law_wide") rfl), F.kp, (F.bindsN fun _ _ _ _ _ _ us hl => match us, hl with | [_, _], _ => rfl)⟩
theorem gF__law_order (c : He.SaysD faL fnL K) (X : K.In h) (G : h.Ns mainGlobals mg) (T : TxK K mg) (TB : TbK K) (HP : HFP P) : HasF P w K mg base CX0 1 "_law_order" [] spOrder := by
  obtain ⟨fd, F⟩ := c.def_ 25 (d := dD "_law_order" sOrder) rfl
  exact ⟨_, fd, (ok_order F T), He.glo_ok X G (c.fact 32 (f := .glo "_law_order") rfl), F.kp, (F.bindsN fun _ _ _ _ _ _ us hl => match us, hl with | [], _ => rfl)⟩
theorem gF__law_words (c : He.SaysD faL fnL K) (X : K.In h) (G : h.Ns mainGlobals mg) (T : TxK K mg) (TB : TbK K) (HP : HFP P) : HasF P w K mg base CX0 2 "_law_words" [] spWords := by
  obtain ⟨fd, F⟩ := c.def_ 26 (d := dD "_law_words" sWords) rfl
  exact ⟨_, fd, (ok_words F T (gF__law_order c X G T TB HP)), He.glo_ok X G (c.fact 33 (f := .glo "_law_words") rfl), F.kp, (F.bindsN fun _ _ _ _ _ _ us hl => match us, hl with | [], _ => rfl)⟩
theorem gF__law_coded (c : He.SaysD faL fnL K) (X : K.In h) (G : h.Ns mainGlobals mg) (T : TxK K mg) (TB : TbK K) (HP : HFP P) : HasF P w K mg base CX0 1 "_law_coded" ["_law_octets_here", "_law_words_here"] spCoded := by
  obtain ⟨fd, F⟩ := c.def_ 27 (d := dD "_law_coded" sCoded) rfl
  exact ⟨_, fd, (ok_coded F T), He.glo_ok X G (c.fact 34 (f := .glo "_law_coded") rfl), F.kp, (F.bindsN fun _ _ _ _ _ _ us hl => match us, hl with | [_, _], _ => rfl)⟩
theorem gF__law_pair (c : He.SaysD faL fnL K) (X : K.In h) (G : h.Ns mainGlobals mg) (T : TxK K mg) (TB : TbK K) (HP : HFP P) : HasF P w K mg base CX0 2 "_law_pair" ["_law_draw_here"] spPair := by
  obtain ⟨fd, F⟩ := c.def_ 31 (d := dD "_law_pair" sPair) rfl
  exact ⟨_, fd, (ok_pair F T (gF__law_take c X G T TB HP) (gF__law_octets c X G T TB HP)), He.glo_ok X G (c.fact 38 (f := .glo "_law_pair") rfl), F.kp, (F.bindsN fun _ _ _ _ _ _ us hl => match us, hl with | [_], _ => rfl)⟩
theorem gF__law_string (c : He.SaysD faL fnL K) (X : K.In h) (G : h.Ns mainGlobals mg) (T : TxK K mg) (TB : TbK K) (HP : HFP P) : HasF P w K mg base CX0 3 "_law_string" ["_law_draw_here", "_law_words_here"] (spPiece 200) := by
  obtain ⟨fd, F⟩ := c.def_ 40 (d := dD "_law_string" sString) rfl
  exact ⟨_, fd, (ok_string F T (gF__law_take c X G T TB HP) (gF__law_pair c X G T TB HP) (gF__law_coded c X G T TB HP) (gF__law_int c X G T TB HP) (gF__law_wide c X G T TB HP)), He.glo_ok X G (c.fact 47 (f := .glo "_law_string") rfl), F.kp, (F.bindsN fun _ _ _ _ _ _ us hl => match us, hl with | [_, _], _ => rfl)⟩
theorem gF__law_part (c : He.SaysD faL fnL K) (X : K.In h) (G : h.Ns mainGlobals mg) (T : TxK K mg) (TB : TbK K) (HP : HFP P) : HasF P w K mg base CX0 4 "_law_part" ["_law_draw_here", "_law_words_here"] (spPiece 500) := by
  obtain ⟨fd, F⟩ := c.def_ 41 (d := dD "_law_part" sPart) rfl
  exact ⟨_, fd, (ok_part F T (gF__law_take c X G T TB HP) (gF__law_int c X G T TB HP) (gF__law_wide c X G T TB HP) (gF__law_string c X G T TB HP)), He.glo_ok X G (c.fact 48 (f := .glo "_law_part") rfl), F.kp, (F.bindsN fun _ _ _ _ _ _ us hl => match us, hl with | [_, _], _ => rfl)⟩
theorem gF__law_block (c : He.SaysD faL fnL K) (X : K.In h) (G : h.Ns mainGlobals mg) (T : TxK K mg) (TB : TbK K) (HP : HFP P) : HasF P w K mg base CX0 5 "_law_block" ["_law_draw_here", "_law_words_here"] (spPiece 4000) := by
  obtain ⟨fd, F⟩ := c.def_ 42 (d := dD "_law_block" sBlock) rfl
  exact ⟨_, fd, (ok_block F T (gF__law_take c X G T TB HP) (gF__law_int c X G T TB HP) (gF__law_wide c X G T TB HP) (gF__law_part c X G T TB HP)), He.glo_ok X G (c.fact 49 (f := .glo "_law_block") rfl), F.kp, (F.bindsN fun _ _ _ _ _ _ us hl => match us, hl with | [_, _], _ => rfl)⟩
theorem gF_named_below (c : He.SaysD faL fnL K) (X : K.In h) (G : h.Ns mainGlobals mg) (T : TxK K mg) (TB : TbK K) (HP : HFP P) : HasF P w K mg base CX0 1 "named_below" ["octet"] spNamed := by
  obtain ⟨fd, F⟩ := c.def_ 0 (d := dD "named_below" sNamedBelow) rfl
  exact ⟨_, fd, (ok_named F T TB), He.glo_ok X G (c.fact 20 (f := .glo "named_below") rfl), F.kp, (F.bindsN fun _ _ _ _ _ _ us hl => match us, hl with | [_], _ => rfl)⟩
theorem gF_octet_of_rank (c : He.SaysD faL fnL K) (X : K.In h) (G : h.Ns mainGlobals mg) (T : TxK K mg) (TB : TbK K) (HP : HFP P) : HasF P w K mg base CX0 2 "octet_of_rank" ["rank"] spRank := by
  obtain ⟨fd, F⟩ := c.def_ 1 (d := dD "octet_of_rank" sOctetOfRank) rfl
  exact ⟨_, fd, (ok_rank F T TB (gF_named_below c X G T TB HP)), He.glo_ok X G (c.fact 21 (f := .glo "octet_of_rank") rfl), F.kp, (F.bindsN fun _ _ _ _ _ _ us hl => match us, hl with | [_], _ => rfl)⟩
theorem gF_octet_of (c : He.SaysD faL fnL K) (X : K.In h) (G : h.Ns mainGlobals mg) (T : TxK K mg) (TB : TbK K) (HP : HFP P) : HasF P w K mg base CX0 3 "octet_of" ["number", "length"] spOctetOf := by
  obtain ⟨fd, F⟩ := c.def_ 2 (d := dD "octet_of" sOctetOf) rfl
  exact ⟨_, fd, (ok_octetOf F T TB (gF_octet_of_rank c X G T TB HP)), He.glo_ok X G (c.fact 22 (f := .glo "octet_of") rfl), F.kp, (F.bindsN fun _ _ _ _ _ _ us hl => match us, hl with | [_, _], _ => rfl)⟩
theorem gF_decoded (c : He.SaysD faL fnL K) (X : K.In h) (G : h.Ns mainGlobals mg) (T : TxK K mg) (TB : TbK K) (HP : HFP P) : HasF P w K mg base (L2N.CX P w) 4 "decoded" ["octets"] (spDecoded (hfC K)) := by
  obtain ⟨fd, F⟩ := c.def_ 3 (d := dD "decoded" sDecoded) rfl
  exact ⟨_, fd, (ok_decoded F HP T (gF_octet_of c X G T TB HP)), He.glo_ok X G (c.fact 23 (f := .glo "decoded") rfl), F.kp, (F.bindsN fun _ _ _ _ _ _ us hl => match us, hl with | [_], _ => rfl)⟩
theorem gF_to_octets (c : He.SaysD faL fnL K) (X : K.In h) (G : h.Ns mainGlobals mg) (T : TxK K mg) (TB : TbK K) (HP : HFP P) : HasF P w K mg base CX0 1 "to_octets" ["text"] spOctets := by
  obtain ⟨fd, F⟩ := c.def_ 4 (d := dD "to_octets" sToOctets) rfl
  exact ⟨_, fd, (ok_toOctets F T), He.glo_ok X G (c.fact 24 (f := .glo "to_octets") rfl), F.kp, (F.bindsN fun _ _ _ _ _ _ us hl => match us, hl with | [_], _ => rfl)⟩
theorem gF_fixed_row (c : He.SaysD faL fnL K) (X : K.In h) (G : h.Ns mainGlobals mg) (T : TxK K mg) (TB : TbK K) (HP : HFP P) : HasF P w K mg base CX0 2 "fixed_row" ["number"] spFixedRow := by
  obtain ⟨fd, F⟩ := c.def_ 5 (d := dD "fixed_row" sFixedRow) rfl
  exact ⟨_, fd, (ok_fixedRow F T TB (gF_to_octets c X G T TB HP)), He.glo_ok X G (c.fact 25 (f := .glo "fixed_row") rfl), F.kp, (F.bindsN fun _ _ _ _ _ _ us hl => match us, hl with | [_], _ => rfl)⟩
theorem gF_row_size (c : He.SaysD faL fnL K) (X : K.In h) (G : h.Ns mainGlobals mg) (T : TxK K mg) (TB : TbK K) (HP : HFP P) : HasF P w K mg base CX0 1 "row_size" ["name", "value"] spSize := by
  obtain ⟨fd, F⟩ := c.def_ 6 (d := dD "row_size" sRowSize) rfl
  exact ⟨_, fd, (ok_size F T), He.glo_ok X G (c.fact 26 (f := .glo "row_size") rfl), F.kp, (F.bindsN fun _ _ _ _ _ _ us hl => match us, hl with | [_, _], _ => rfl)⟩
theorem gI_MovingTable (c : He.SaysD faL fnL K) (X : K.In h) (G : h.Ns mainGlobals mg) (T : TxK K mg) (TB : TbK K) (HP : HFP P) : ∃ fd, FnOk P w K mg base CX0 1 (He.ma K (He.ga K "MovingTable") "__init__") fd ["self", "room"] (spMtI (He.ga K "MovingTable")) ∧ Binds K fd ["self", "room"] [] := by
  obtain ⟨fd, F⟩ := c.def_ 7 (d := dM "MovingTable" "__init__" "MovingTable.__init__" sMtI) rfl
  exact ⟨fd, (ok_mtI F T), (F.bindsN fun _ _ _ _ _ _ us hl => match us, hl with | [_, _], _ => rfl)⟩
theorem gM_MovingTable_room (c : He.SaysD faL fnL K) (X : K.In h) (G : h.Ns mainGlobals mg) (T : TxK K mg) (TB : TbK K) (HP : HFP P) : HasM P w K mg base CX0 1 (He.ga K "MovingTable") "room" ["self"] (spMtRoom (He.ga K "MovingTable")) := by
  obtain ⟨fd, F⟩ := c.def_ 8 (d := dM "MovingTable" "room" "MovingTable.room" sMtRoom) rfl
  exact ⟨_, fd, (ok_mtRoom F T), He.meth_ok (c.fact 64 (f := .meth "MovingTable" "room") rfl), (F.bindsN fun _ _ _ _ _ _ us hl => match us, hl with | [_], _ => rfl)⟩
theorem gM_MovingTable_rows (c : He.SaysD faL fnL K) (X : K.In h) (G : h.Ns mainGlobals mg) (T : TxK K mg) (TB : TbK K) (HP : HFP P) : HasM P w K mg base CX0 1 (He.ga K "MovingTable") "rows" ["self"] (spMtRows (He.ga K "MovingTable")) := by
  obtain ⟨fd, F⟩ := c.def_ 9 (d := dM "MovingTable" "rows" "MovingTable.rows" sMtRows) rfl
  exact ⟨_, fd, (ok_mtRows F T), He.meth_ok (c.fact 65 (f := .meth "MovingTable" "rows") rfl), (F.bindsN fun _ _ _ _ _ _ us hl => match us, hl with | [_], _ => rfl)⟩
theorem gM_MovingTable_shrink (c : He.SaysD faL fnL K) (X : K.In h) (G : h.Ns mainGlobals mg) (T : TxK K mg) (TB : TbK K) (HP : HFP P) : HasM P w K mg base CX0 2 (He.ga K "MovingTable") "shrink" ["self", "most"] (spShrink (He.ga K "MovingTable")) := by
  obtain ⟨fd, F⟩ := c.def_ 10 (d := dM "MovingTable" "shrink" "MovingTable.shrink" sMtShrink) rfl
  exact ⟨_, fd, (ok_mtShrink F T (gF_row_size c X G T TB HP)), He.meth_ok (c.fact 66 (f := .meth "MovingTable" "shrink") rfl), (F.bindsN fun _ _ _ _ _ _ us hl => match us, hl with | [_, _], _ => rfl)⟩
theorem gM_MovingTable_resize (c : He.SaysD faL fnL K) (X : K.In h) (G : h.Ns mainGlobals mg) (T : TxK K mg) (TB : TbK K) (HP : HFP P) : HasM P w K mg base CX0 3 (He.ga K "MovingTable") "resize" ["self", "room"] (spResize (He.ga K "MovingTable")) := by
  obtain ⟨fd, F⟩ := c.def_ 11 (d := dM "MovingTable" "resize" "MovingTable.resize" sMtResize) rfl
  exact ⟨_, fd, (ok_mtResize F T (gM_MovingTable_shrink c X G T TB HP)), He.meth_ok (c.fact 67 (f := .meth "MovingTable" "resize") rfl), (F.bindsN fun _ _ _ _ _ _ us hl => match us, hl with | [_, _], _ => rfl)⟩
theorem gM_MovingTable_add (c : He.SaysD faL fnL K) (X : K.In h) (G : h.Ns mainGlobals mg) (T : TxK K mg) (TB : TbK K) (HP : HFP P) : HasM P w K mg base CX0 3 (He.ga K "MovingTable") "add" ["self", "name", "value"] (spMtAdd (He.ga K "MovingTable")) := by
  obtain ⟨fd, F⟩ := c.def_ 12 (d := dM "MovingTable" "add" "MovingTable.add" sMtAdd) rfl
  exact ⟨_, fd, (ok_mtAdd F T (gF_row_size c X G T TB HP) (gM_MovingTable_shrink c X G T TB HP)), He.meth_ok (c.fact 68 (f := .meth "MovingTable" "add") rfl), (F.bindsN fun _ _ _ _ _ _ us hl => match us, hl with | [_, _, _], _ => rfl)⟩
theorem gM_MovingTable_row (c : He.SaysD faL fnL K) (X : K.In h) (G : h.Ns mainGlobals mg) (T : TxK K mg) (TB : TbK K) (HP : HFP P) : HasM P w K mg base CX0 3 (He.ga K "MovingTable") "row" ["self", "number"] (spMtRow (He.ga K "MovingTable")) := by
  obtain ⟨fd, F⟩ := c.def_ 13 (d := dM "MovingTable" "row" "MovingTable.row" sMtRow) rfl
  exact ⟨_, fd, (ok_mtRow F T TB (gF_fixed_row c X G T TB HP)), He.meth_ok (c.fact 69 (f := .meth "MovingTable" "row") rfl), (F.bindsN fun _ _ _ _ _ _ us hl => match us, hl with | [_, _], _ => rfl)⟩
theorem gF_read_int (c : He.SaysD faL fnL K) (X : K.In h) (G : h.Ns mainGlobals mg) (T : TxK K mg) (TB : TbK K) (HP : HFP P) : HasF P w K mg base (L2.CX P w) 1 "read_int" ["octets", "at", "n"] (spReadInt (hfC K)) := by
  obtain ⟨fd, F⟩ := c.def_ 14 (d := dD "read_int" sReadInt) rfl
  exact ⟨_, fd, (ok_readInt F HP T), He.glo_ok X G (c.fact 27 (f := .glo "read_int") rfl), F.kp, (F.bindsN fun _ _ _ _ _ _ us hl => match us, hl with | [_, _, _], _ => rfl)⟩
theorem gF_read_string (c : He.SaysD faL fnL K) (X : K.In h) (G : h.Ns mainGlobals mg) (T : TxK K mg) (TB : TbK K) (HP : HFP P) : HasF P w K mg base (L2.CX P w) 5 "read_string" ["octets", "at"] (spReadStr (hfC K)) := by
  obtain ⟨fd, F⟩ := c.def_ 15 (d := dD "read_string" sReadString) rfl
  exact ⟨_, fd, (ok_readString F HP T (gF_read_int c X G T TB HP) (gF_decoded c X G T TB HP)), He.glo_ok X G (c.fact 28 (f := .glo "read_string") rfl), F.kp, (F.bindsN fun _ _ _ _ _ _ us hl => match us, hl with | [_, _], _ => rfl)⟩
theorem gM_Unpacker_table (c : He.SaysD faL fnL K) (X : K.In h) (G : h.Ns mainGlobals mg) (T : TxK K mg) (TB : TbK K) (HP : HFP P) : HasM P w K mg base CX0 1 (He.ga K "Unpacker") "table" ["self"] (spTable (He.ga K "Unpacker")) := by
  obtain ⟨fd, F⟩ := c.def_ 17 (d := dM "Unpacker" "table" "Unpacker.table" sUnTable) rfl
  exact ⟨_, fd, (ok_unTable F T), He.meth_ok (c.fact 70 (f := .meth "Unpacker" "table") rfl), (F.bindsN fun _ _ _ _ _ _ us hl => match us, hl with | [_], _ => rfl)⟩
theorem gI_Unpacker (c : He.SaysD faL fnL K) (X : K.In h) (G : h.Ns mainGlobals mg) (T : TxK K mg) (TB : TbK K) (HP : HFP P) : ∃ fd, FnOk P w K mg base CX0 3 (He.ma K (He.ga K "Unpacker") "__init__") fd ["self", "limit"] (spUnI (He.ga K "Unpacker") (He.ga K "MovingTable")) ∧ Binds K fd ["self", "limit"] [] := by
  obtain ⟨fd, F⟩ := c.def_ 16 (d := dM "Unpacker" "__init__" "Unpacker.__init__" sUnI) rfl
  obtain ⟨fdI, GI, bI⟩ := gI_MovingTable (P := P) (w := w) (base := base) c X G T TB HP
  exact ⟨fd, (ok_unI F T (He.mkr_ok (c.fact 77 (f := .mkr "MovingTable") rfl)) GI bI), (F.bindsN fun _ _ _ _ _ _ us hl => match us, hl with | [_, _], _ => rfl)⟩
theorem gM_Unpacker_known (c : He.SaysD faL fnL K) (X : K.In h) (G : h.Ns mainGlobals mg) (T : TxK K mg) (TB : TbK K) (HP : HFP P) : HasM P w K mg base (L2.CX P w) 4 (He.ga K "Unpacker") "known" ["self", "number", "at"] (spKnown (He.ga K "Unpacker") (He.ga K "MovingTable") (hfC K)) := by
  obtain ⟨fd, F⟩ := c.def_ 20 (d := dM "Unpacker" "known" "Unpacker.known" sUnKnown) rfl
  exact ⟨_, fd, (ok_unKnown F HP T (gM_MovingTable_row c X G T TB HP)), He.meth_ok (c.fact 73 (f := .meth "Unpacker" "known") rfl), (F.bindsN fun _ _ _ _ _ _ us hl => match us, hl with | [_, _, _], _ => rfl)⟩
theorem gM_Unpacker_read_pair (c : He.SaysD faL fnL K) (X : K.In h) (G : h.Ns mainGlobals mg) (T : TxK K mg) (TB : TbK K) (HP : HFP P) : HasM P w K mg base (L2.CX P w) 6 (He.ga K "Unpacker") "read_pair" ["self", "octets", "at"] (spReadPair (He.ga K "Unpacker") (He.ga K "MovingTable") (hfC K)) := by
  obtain ⟨fd, F⟩ := c.def_ 19 (d := dM "Unpacker" "read_pair" "Unpacker.read_pair" sUnPair) rfl
  exact ⟨_, fd, (ok_unPair F HP T (gF_read_int c X G T TB HP) (gF_read_string c X G T TB HP) (gM_Unpacker_known c X G T TB HP) (gM_MovingTable_add c X G T TB HP)), He.meth_ok (c.fact 72 (f := .meth "Unpacker" "read_pair") rfl), (F.bindsN fun _ _ _ _ _ _ us hl => match us, hl with | [_, _, _], _ => rfl)⟩
theorem gM_Unpacker_read_rooms (c : He.SaysD faL fnL K) (X : K.In h) (G : h.Ns mainGlobals mg) (T : TxK K mg) (TB : TbK K) (HP : HFP P) : HasM P w K mg base (L2.CX P w) 4 (He.ga K "Unpacker") "read_rooms" ["self", "octets"] (spRooms (He.ga K "Unpacker") (He.ga K "MovingTable") (hfC K)) := by
  obtain ⟨fd, F⟩ := c.def_ 18 (d := dM "Unpacker" "read_rooms" "Unpacker.read_rooms" sUnRooms) rfl
  exact ⟨_, fd, (ok_unRooms F HP T (gF_read_int c X G T TB HP) (gM_MovingTable_resize c X G T TB HP) (gM_MovingTable_room c X G T TB HP)), He.meth_ok (c.fact 71 (f := .meth "Unpacker" "read_rooms") rfl), (F.bindsN fun _ _ _ _ _ _ us hl => match us, hl with | [_, _], _ => rfl)⟩
theorem gM_Unpacker_unpack (c : He.SaysD faL fnL K) (X : K.In h) (G : h.Ns mainGlobals mg) (T : TxK K mg) (TB : TbK K) (HP : HFP P) : HasM P w K mg base (L2.CX P w) 7 (He.ga K "Unpacker") "unpack" ["self", "octets"] (spUnpack (He.ga K "Unpacker") (He.ga K "MovingTable") (hfC K)) := by
  obtain ⟨fd, F⟩ := c.def_ 21 (d := dM "Unpacker" "unpack" "Unpacker.unpack" sUnpack) rfl
  exact ⟨_, fd, (ok_unpack F HP T (gM_Unpacker_read_rooms c X G T TB HP) (gM_Unpacker_read_pair c X G T TB HP)), He.meth_ok (c.fact 74 (f := .meth "Unpacker" "unpack") rfl), (F.bindsN fun _ _ _ _ _ _ us hl => match us, hl with | [_, _], _ => rfl)⟩
theorem gF__law_total (c : He.SaysD faL fnL K) (X : K.In h) (G : h.Ns mainGlobals mg) (T : TxK K mg) (TB : TbK K) (HP : HFP P) : HasF P w K mg base CX0 1 "_law_total" ["_law_kept"] spTotal := by
  obtain ⟨fd, F⟩ := c.def_ 32 (d := dD "_law_total" sTotal) rfl
  exact ⟨_, fd, (ok_total F T), He.glo_ok X G (c.fact 39 (f := .glo "_law_total") rfl), F.kp, (F.bindsN fun _ _ _ _ _ _ us hl => match us, hl with | [_], _ => rfl)⟩
theorem gF__law_fit (c : He.SaysD faL fnL K) (X : K.In h) (G : h.Ns mainGlobals mg) (T : TxK K mg) (TB : TbK K) (HP : HFP P) : HasF P w K mg base CX0 2 "_law_fit" ["_law_kept", "_law_room"] spFit := by
  obtain ⟨fd, F⟩ := c.def_ 33 (d := dD "_law_fit" sFit) rfl
  exact ⟨_, fd, (ok_fit F T (gF__law_total c X G T TB HP)), He.glo_ok X G (c.fact 40 (f := .glo "_law_fit") rfl), F.kp, (F.bindsN fun _ _ _ _ _ _ us hl => match us, hl with | [_, _], _ => rfl)⟩
theorem gF__law_add (c : He.SaysD faL fnL K) (X : K.In h) (G : h.Ns mainGlobals mg) (T : TxK K mg) (TB : TbK K) (HP : HFP P) : HasF P w K mg base CX0 3 "_law_add" ["_law_kept", "_law_room", "_law_pair_here"] spLAdd := by
  obtain ⟨fd, F⟩ := c.def_ 34 (d := dD "_law_add" sAdd) rfl
  exact ⟨_, fd, (ok_add F T (gF__law_total c X G T TB HP) (gF__law_fit c X G T TB HP)), He.glo_ok X G (c.fact 41 (f := .glo "_law_add") rfl), F.kp, (F.bindsN fun _ _ _ _ _ _ us hl => match us, hl with | [_, _, _], _ => rfl)⟩
theorem gF__law_read (c : He.SaysD faL fnL K) (X : K.In h) (G : h.Ns mainGlobals mg) (T : TxK K mg) (TB : TbK K) (HP : HFP P) : HasF P w K mg base CX0 1 "_law_read" ["_law_octets_here", "_law_at", "_law_n"] spRead := by
  obtain ⟨fd, F⟩ := c.def_ 35 (d := dD "_law_read" sRead) rfl
  exact ⟨_, fd, (ok_read F T), He.glo_ok X G (c.fact 42 (f := .glo "_law_read") rfl), F.kp, (F.bindsN fun _ _ _ _ _ _ us hl => match us, hl with | [_, _, _], _ => rfl)⟩
theorem gF__law_fixed (c : He.SaysD faL fnL K) (X : K.In h) (G : h.Ns mainGlobals mg) (T : TxK K mg) (TB : TbK K) (HP : HFP P) : HasF P w K mg base CX0 2 "_law_fixed" [] spLFixed := by
  obtain ⟨fd, F⟩ := c.def_ 29 (d := dD "_law_fixed" sLFixed) rfl
  exact ⟨_, fd, (ok_lfixed F T (gF__law_octets c X G T TB HP)), He.glo_ok X G (c.fact 36 (f := .glo "_law_fixed") rfl), F.kp, (F.bindsN fun _ _ _ _ _ _ us hl => match us, hl with | [], _ => rfl)⟩
theorem gF__law_decoded (c : He.SaysD faL fnL K) (X : K.In h) (G : h.Ns mainGlobals mg) (T : TxK K mg) (TB : TbK K) (HP : HFP P) : HasF P w K mg base CX0 1 "_law_decoded" ["_law_octets_here", "_law_words_here"] spLDecoded := by
  obtain ⟨fd, F⟩ := c.def_ 28 (d := dD "_law_decoded" sLDecoded) rfl
  exact ⟨_, fd, (ok_ldecoded F T), He.glo_ok X G (c.fact 35 (f := .glo "_law_decoded") rfl), F.kp, (F.bindsN fun _ _ _ _ _ _ us hl => match us, hl with | [_, _], _ => rfl)⟩
theorem gF__law_read_string (c : He.SaysD faL fnL K) (X : K.In h) (G : h.Ns mainGlobals mg) (T : TxK K mg) (TB : TbK K) (HP : HFP P) : HasF P w K mg base CX0 2 "_law_read_string" ["_law_octets_here", "_law_at", "_law_words_here"] spLReadStr := by
  obtain ⟨fd, F⟩ := c.def_ 36 (d := dD "_law_read_string" sLReadString) rfl
  exact ⟨_, fd, (ok_lreadString F T (gF__law_read c X G T TB HP) (gF__law_decoded c X G T TB HP)), He.glo_ok X G (c.fact 43 (f := .glo "_law_read_string") rfl), F.kp, (F.bindsN fun _ _ _ _ _ _ us hl => match us, hl with | [_, _, _], _ => rfl)⟩
theorem gF__law_read_pair (c : He.SaysD faL fnL K) (X : K.In h) (G : h.Ns mainGlobals mg) (T : TxK K mg) (TB : TbK K) (HP : HFP P) : HasF P w K mg base CX0 4 "_law_read_pair" ["_law_state", "_law_octets_here", "_law_at", "_law_words_here"] spLReadPair := by
  obtain ⟨fd, F⟩ := c.def_ 37 (d := dD "_law_read_pair" sReadPair) rfl
  exact ⟨_, fd, (ok_lreadPair F T (gF__law_read c X G T TB HP) (gF__law_read_string c X G T TB HP) (gF__law_fixed c X G T TB HP) (gF__law_add c X G T TB HP)), He.glo_ok X G (c.fact 44 (f := .glo "_law_read_pair") rfl), F.kp, (F.bindsN fun _ _ _ _ _ _ us hl => match us, hl with | [_, _, _, _], _ => rfl)⟩
theorem gF__law_unpack (c : He.SaysD faL fnL K) (X : K.In h) (G : h.Ns mainGlobals mg) (T : TxK K mg) (TB : TbK K) (HP : HFP P) : HasF P w K mg base CX0 5 "_law_unpack" ["_law_state", "_law_octets_here", "_law_words_here"] spLUnpack := by
  obtain ⟨fd, F⟩ := c.def_ 38 (d := dD "_law_unpack" sLUnpack) rfl
  exact ⟨_, fd, (ok_lunpack F T (gF__law_read c X G T TB HP) (gF__law_fit c X G T TB HP) (gF__law_read_pair c X G T TB HP)), He.glo_ok X G (c.fact 45 (f := .glo "_law_unpack") rfl), F.kp, (F.bindsN fun _ _ _ _ _ _ us hl => match us, hl with | [_, _, _], _ => rfl)⟩
theorem gLaw (c : He.SaysD faL fnL K) (X : K.In h) (G : h.Ns mainGlobals mg) (T : TxK K mg) (TB : TbK K) (HP : HFP P) : ∃ fd, (∀ (s : Shared) (v : Value), BindsTo s fd ⟨[v], []⟩ [("_law_script", v)]) ∧ ∀ base : Heap, K.In base → base.Ns mainGlobals mg → FnOk P w K mg base CX0 8 (He.ga K "law") fd ["_law_script"] (spLaw K) := by
  obtain ⟨fd, F⟩ := c.def_ 43 (d := dD "law" sLaw) rfl
  refine ⟨fd, fun s v => F.bindsA (ps := ["_law_script"]) (fun _ _ _ _ _ _ us hl => match us, hl with | [_], _ => rfl) s [v] rfl, fun base _ _ => ?_⟩
  obtain ⟨fdI, GI, bI⟩ := gI_Unpacker (P := P) (w := w) (base := base) c X G T TB HP
  exact (ok_law F T (gF__law_draw c X G T TB HP) (gF__law_words c X G T TB HP) (gF__law_take c X G T TB HP) (gF__law_block c X G T TB HP) (gF__law_unpack c X G T TB HP) (He.mkr_ok (c.fact 78 (f := .mkr "Unpacker") rfl)) GI bI (gM_Unpacker_unpack c X G T TB HP) (gM_Unpacker_table c X G T TB HP) (gM_MovingTable_rows c X G T TB HP) (gM_MovingTable_room c X G T TB HP))
end
end BR
/-! BrClaim: the claim -/
namespace BR
open PySem PySem.Spec PyProof.Rows L2
theorem hfp : HFP (PySem.Challenge.rw_ownanswer_k25_blocks_read).prog := ⟨by kernel_rfl, by kernel_rfl⟩
theorem lawName : (HandSHeadRun.topDef R.prog 54).name = ("law" : PySem.Str) := by kernel_rfl
/-- the law's walk, by what the head says -/
theorem walked {w : PySem.World} {K : PySem.W.Frag} {h : PySem.Heap} {mg : PySem.Str → Option PySem.Value} {fa : PySem.Addr} (X : K.In h) (G : h.Ns PySem.mainGlobals mg) (c : Says2 K) (hm : mg ("law" : PySem.Str) = some (.ref fa)) :
    ∃ fd : PySem.FuncData, (∀ (s : PySem.Shared) (v : PySem.Value), BindsTo s fd ⟨[v], []⟩ [("_law_script", v)]) ∧ ∀ base : PySem.Heap, K.In base → base.Ns PySem.mainGlobals mg → L2.FnOk (PySem.Challenge.rw_ownanswer_k25_blocks_read).prog w K mg base L2.CX0 8 fa fd ["_law_script"] (spLaw K) := by
  have cD : He.SaysD faL fnL K := congrArg (fun z : Al2 => z.1) c
  have cE : exB K = true := congrArg (fun z : Al2 => z.2.1) c
  have cW : hfW K = hfV := congrArg (fun z : Al2 => z.2.2) c
  have e := hm.symm.trans (He.glo_ok X G (cD.fact 50 (f := .glo "law") rfl))
  cases e
  exact gLaw cD X G (txK cD X G (hfK cD X G cE cW)) (tbK cE) hfp
end BR
open PySem PySem.W PySem.Calls PyProof.Rows
theorem PySem.Challenge.cw_ownanswer_k25_blocks_read_holds : PySem.Challenge.rw_ownanswer_k25_blocks_read.Holds := by
  w_on; o_law
  refine HandSHeadRun.head_any (r := OpenLaw.row PySem.Challenge.rw_ownanswer_k25_blocks_read) (q := view (OpenLaw.row PySem.Challenge.rw_ownanswer_k25_blocks_read).prog [54]) (H := BR.hook2) (ob := BR.ob) (M := 4000) (loose := BR.loose) (d := HandSHeadRun.topDef (OpenLaw.row PySem.Challenge.rw_ownanswer_k25_blocks_read).prog 54) (kwd := []) BR.ob_eq
    (by kernel_rfl) (fun s => by kernel_rfl) BR.headRun (by kernel_rfl) (by kernel_rfl) (by kernel_rfl) (by rfl) (by first | assumption | decide +kernel) (by decide +kernel) ⟨rfl, rfl, rfl, rfl, rfl, by decide +kernel⟩ ?hw ?hc
  case hw => w_witness2
  case hc =>
    refine L2.walk_ofE (l := PySem.Challenge.rw_ownanswer_k25_blocks_read) (n := 63) (k := 8) (x := "_law_script") (CX := L2.CX0) rfl (by decide) (by kernel_rfl) ⟨rfl, by decide, by decide⟩ ?F (fun _ _ _ _ z => z)
    intro w mg fa h Y G hmg0
    obtain ⟨K, KX, c⟩ := Y
    have hmg : mg ("law" : PySem.Str) = some (.ref fa) := by
      rw [← BR.lawName]
      exact hmg0
    obtain ⟨fd, hb, hF⟩ := BR.walked (w := w) KX G c hmg
    exact ⟨K, fd, BR.spLaw K, KX, hb, fun H a ns hl _ hS => ⟨a, ns, rfl, hS, hl, fun _ => rfl⟩, hF⟩
