import PyProof.Rows.All
import Wide.All
import OpenK.AllK
import Wide.FinOn
import HandS.Codes
import HandS.ForMost
import HandS.Exc
import HandS.FStr
import HandS.Lambda
import HandS.ExcInit
import HandS.ExcField
import HandS.HotCalls
import HandS.EndOwn
import KE.GoesEnum
import KE.GoesZip
import KE.GoesMore
import PyProof.ListStr
import HandS.ClsMeth
import KE.KUnpackStar
import KE.KDictLaws
import KE.GoesRaise
import HandS.WordsExc
import HandS.IsInst
import HandS.Wide
import HandS.Star
import HandS.Style
import HandS.EndTab
import HandS.HeadHook1
import KE.KNestM
import PySem.Challenge.RW_rootbags_k52_whole_texts_and_trees
set_option Elab.async false
set_option linter.all false
set_option maxRecDepth 100000
set_option maxHeartbeats 4000000
/-! The mirror: scanner, parser, formatter over lists of code points -/
namespace Rb
open PySem
open TL (numL)

abbrev Tx := List Nat
abbrev Rt := Int × Int

def isL (c : Nat) : Bool := decide (97 ≤ c) && decide (c ≤ 122)
def isD (c : Nat) : Bool := decide (48 ≤ c) && decide (c ≤ 57)

/-! ### scan -/
theorem drop_le (p : Nat → Bool) : ∀ r : Tx, (r.dropWhile p).length ≤ r.length
  | [] => Nat.le_refl _
  | c :: r => by
    rw [List.dropWhile_cons]
    split
    · exact Nat.le_succ_of_le (drop_le p r)
    · exact Nat.le_refl _
def scan : Tx → List Tx
  | [] => []
  | c :: r =>
    if isL c = true then (c :: r.takeWhile isL) :: scan (r.dropWhile isL)
    else if isD c = true then (c :: r.takeWhile isD) :: scan (r.dropWhile isD)
    else if c = 32 then scan r
    else [c] :: scan r
  termination_by t => t.length
  decreasing_by
    · exact Nat.lt_succ_of_le (drop_le _ _)
    · exact Nat.lt_succ_of_le (drop_le _ _)
    · exact Nat.lt_succ_self _
    · exact Nat.lt_succ_self _

/-! ### trees -/
inductive Bop where
  | join | sum | diff | prod | quot
  deriving DecidableEq
def Bop.lev : Bop → Nat
  | .join => 1 | .sum => 2 | .diff => 2 | .prod => 3 | .quot => 3
def Bop.sym : Bop → Nat
  | .join => 124 | .sum => 43 | .diff => 45 | .prod => 42 | .quot => 47
inductive Tm where
  | name (s : Tx) | list (qs : List Rt) | roots (p : List Rt) | unity (n : Nat)
  | bin (o : Bop) (a b : Tm) | neg (a : Tm) | pow (a : Tm) (n : Nat) | map (p : List Rt) (a : Tm)
  | sums (a : Tm) (n : Nat) | prods (a : Tm) (n : Nat) | dist (a : Tm) | comm (a b : Tm) | wout (a b : Tm)
  deriving DecidableEq
def lev : Tm → Nat
  | .bin o _ _ => o.lev | .neg _ => 4 | .pow _ _ => 5 | _ => 6
def nodes : Tm → Nat
  | .bin _ a b => 1 + (nodes a + nodes b)
  | .neg a => 1 + nodes a
  | .pow a _ => 1 + nodes a
  | .map _ a => 1 + nodes a
  | .sums a _ => 1 + nodes a
  | .prods a _ => 1 + nodes a
  | .dist a => 1 + nodes a
  | .comm a b => 1 + (nodes a + nodes b)
  | .wout a b => 1 + (nodes a + nodes b)
  | _ => 1

/-! ### words -/
def wRoots : Tx := [114, 111, 111, 116, 115]
def wUnity : Tx := [117, 110, 105, 116, 121]
def wMap : Tx := [109, 97, 112]
def wSums : Tx := [115, 117, 109, 115]
def wProds : Tx := [112, 114, 111, 100, 117, 99, 116, 115]
def wDist : Tx := [100, 105, 115, 116, 105, 110, 99, 116]
def wComm : Tx := [99, 111, 109, 109, 111, 110]
def wWout : Tx := [119, 105, 116, 104, 111, 117, 116]

/-! ### the parser -/
abbrev Res (α : Type) := Option (α × List Tx)
def tokNat (t : Tx) : Option Nat :=
  match t with
  | [] => none
  | c :: r => if isD c = true ∧ (c :: r).length ≤ 100 ∧ (c ≠ 48 ∨ r = []) then some (NumText.digitsVal (c :: r)) else none
def natural : List Tx → Res Nat
  | [] => none
  | t :: ts => match tokNat t with
    | none => none
    | some n => some (n, ts)
def low (n d : Int) : Rt := (n / (Int.gcd n d : Nat), d / (Int.gcd n d : Nat))
def sgn (b : Bool) (n : Nat) : Int := if b = true then -(n : Int) else (n : Int)
def minus1 : List Tx → Bool × List Tx
  | [] => (false, [])
  | t :: r => if t = [45] then (true, r) else (false, t :: r)
def under (s : Int) (ts : List Tx) : Res Rt :=
  match ts with
  | [] => none
  | t :: r => if t = [47] then
      (match r with
        | [] => none
        | t' :: _ => if t' = [48] then none else
          match natural r with
          | none => none
          | some (d, ts3) => some (low s d, ts3))
    else some (low s 1, t :: r)
def rational (ts : List Tx) : Res Rt :=
  match natural (minus1 ts).2 with
  | none => none
  | some (n, ts2) => under (sgn (minus1 ts).1 n) ts2
def comma (first : Bool) (ts : List Tx) : Option (List Tx) :=
  if first = true then some ts else
  match ts with
  | [] => none
  | t :: r => if t = [44] then some r else none
def numsLoop (cl : Tx) (acc : List Rt) (ts : List Tx) : Res (List Rt) :=
  match ts with
  | [] => none
  | t :: r => if t = cl then some (acc, r) else
    match comma acc.isEmpty (t :: r) with
    | none => none
    | some ts1 => match rational ts1 with
      | none => none
      | some (q, ts2) => if h : ts2.length < (t :: r).length then numsLoop cl (acc ++ [q]) ts2 else none
  termination_by ts.length
def numbers (op cl : Tx) (ts : List Tx) : Res (List Rt) :=
  match ts with
  | [] => none
  | t :: r => if t = op then numsLoop cl [] r else none
def opAt (l : Nat) (t : Tx) : Option Bop :=
  if l = 1 then (if t = [124] then some .join else none)
  else if l = 2 then (if t = [43] then some .sum else if t = [45] then some .diff else none)
  else if l = 3 then (if t = [42] then some .prod else if t = [47] then some .quot else none)
  else none
def binLoop (l : Nat) (sub : List Tx → Res Tm) (here : Tm) (ts : List Tx) : Res Tm :=
  match ts with
  | [] => none
  | t :: r => match opAt l t with
    | none => some (here, t :: r)
    | some o => match sub r with
      | none => none
      | some (b, ts2) => if h : ts2.length < (t :: r).length then binLoop l sub (.bin o here b) ts2 else none
  termination_by ts.length
def powLoop (here : Tm) : List Tx → Res Tm
  | [] => none
  | [t] => if t = [94] then none else some (here, [t])
  | t :: t2 :: r => if t = [94] then (match tokNat t2 with
      | none => none
      | some n => powLoop (.pow here n) r) else some (here, t :: t2 :: r)
def minuses : List Tx → Nat × List Tx
  | [] => (0, [])
  | t :: r => if t = [45] then ((minuses r).1 + 1, (minuses r).2) else (0, t :: r)
def negs : Nat → Tm → Tm
  | 0, t => t
  | k + 1, t => .neg (negs k t)
inductive Arg where
  | num (n : Nat) | poly (p : List Rt) | sub (t : Tm)
def trim : List Rt → List Rt
  | [] => []
  | q :: p => if trim p = [] ∧ q = (0, 1) then [] else q :: trim p
def argM (rec : List Tx → Res Tm) (word : Tx) (sign : Nat) (ts : List Tx) : Res Arg :=
  if sign = 110 then
    (match natural ts with
      | none => none
      | some (n, r) => some (.num n, r))
  else if sign = 101 then
    (match rec ts with
      | none => none
      | some (t, r) => some (.sub t, r))
  else
    match numbers [91] [93] ts with
    | none => none
    | some (p, r) => if trim p = [] ∧ word = wRoots then none else some (.poly (trim p), r)
def argsM (rec : List Tx → Res Tm) (word : Tx) : List Nat → Bool → List Tx → Res (List Arg)
  | [], _, ts => some ([], ts)
  | s :: ss, first, ts => match comma first ts with
    | none => none
    | some ts1 => match argM rec word s ts1 with
      | none => none
      | some (a, ts2) => match argsM rec word ss false ts2 with
        | none => none
        | some (as, ts3) => some (a :: as, ts3)
def formOf (w : Tx) : Option (List Nat) :=
  if w = wRoots then some [112] else if w = wUnity then some [110] else if w = wMap then some [112, 101]
  else if w = wSums then some [101, 110] else if w = wProds then some [101, 110] else if w = wDist then some [101]
  else if w = wComm then some [101, 101] else if w = wWout then some [101, 101] else none
def mk (w : Tx) (as : List Arg) : Option Tm :=
  match as with
  | [.poly p] => if w = wRoots then some (.roots p) else none
  | [.num n] => if w = wUnity then some (.unity n) else none
  | [.poly p, .sub a] => if w = wMap then some (.map p a) else none
  | [.sub a, .num n] => if w = wSums then some (.sums a n) else if w = wProds then some (.prods a n) else none
  | [.sub a] => if w = wDist then some (.dist a) else none
  | [.sub a, .sub b] => if w = wComm then some (.comm a b) else if w = wWout then some (.wout a b) else none
  | _ => none
def headL : Tx → Bool
  | [] => false
  | c :: _ => isL c
def close (x : Res Tm) : Res Tm :=
  match x with
  | none => none
  | some (t, r) => match r with
    | [] => none
    | t' :: r' => if t' = [41] then some (t, r') else none
def funM (rec : Option (List Tx → Res Tm)) (t : Tx) (ts : List Tx) : Res Tm :=
  match formOf t with
  | none => none
  | some fs => match rec with
    | none => none
    | some f => close (match argsM f t fs true ts with
      | none => none
      | some (as, r3) => match mk t as with
        | none => none
        | some x => some (x, r3))
def parenM (rec : Option (List Tx → Res Tm)) (ts : List Tx) : Res Tm :=
  match rec with
  | none => none
  | some f => close (f ts)
def atomM (rec : Option (List Tx → Res Tm)) (ts : List Tx) : Res Tm :=
  match ts with
  | [] => none
  | t :: r =>
    if t = [123] then
      (match numbers [123] [125] (t :: r) with
        | none => none
        | some (qs, r') => some (.list qs, r'))
    else if t = [40] then parenM rec r
    else if headL t = true then
      (match r with
        | [] => none
        | t2 :: r2 => if t2 = [40] then funM rec t r2 else if t.length > 8 then none else some (.name t, t2 :: r2))
    else none
def powM (rec : Option (List Tx → Res Tm)) (ts : List Tx) : Res Tm :=
  match atomM rec ts with
  | none => none
  | some (a, r) => powLoop a r
def signed (rec : Option (List Tx → Res Tm)) (ts : List Tx) : Res Tm :=
  match powM rec (minuses ts).2 with
  | none => none
  | some (p, r) => some (negs (minuses ts).1 p, r)
def lv (rec : Option (List Tx → Res Tm)) : Nat → List Tx → Res Tm
  | 0, ts => signed rec ts
  | k + 1, ts => match lv rec k ts with
    | none => none
    | some (a, r) => binLoop (3 - k) (lv rec k) a r
def recD (f : Nat → List Tx → Res Tm) : Nat → Option (List Tx → Res Tm)
  | 0 => none
  | d + 1 => some (f d)
def P : Nat → List Tx → Res Tm
  | 0, ts => lv none 3 ts
  | d + 1, ts => lv (some (P d)) 3 ts
def rcd (d : Nat) : Option (List Tx → Res Tm) := recD P d
theorem P_eq (d : Nat) (ts : List Tx) : P d ts = lv (rcd d) 3 ts := by
  cases d <;> rfl
def parseT (t : Tx) : Option Tm :=
  if t.length > 400 then none else
  match P 20 (scan t ++ [[]]) with
  | none => none
  | some (T, r) => match r with
    | [] => none
    | t' :: _ => if t' = [] then (if nodes T > 60 then none else some T) else none

/-! ### the formatter -/
def intTx (i : Int) : Tx := if i < 0 then 45 :: numL i.natAbs else numL i.natAbs
def numTx (q : Rt) : Tx := if q.2 = 1 then intTx q.1 else intTx q.1 ++ 47 :: intTx q.2
def numsTx (qs : List Rt) : Tx := TL.joinL [44, 32] (qs.map numTx)
def wrapIf (b : Bool) (t : Tx) : Tx := if b = true then 40 :: (t ++ [41]) else t
def fmt : Tm → Tx
  | .name s => s
  | .list qs => 123 :: (numsTx qs ++ [125])
  | .roots p => wRoots ++ (40 :: 91 :: (numsTx p ++ [93, 41]))
  | .unity n => wUnity ++ (40 :: (numL n ++ [41]))
  | .bin o a b => wrapIf (decide (lev a < o.lev)) (fmt a) ++ (32 :: o.sym :: 32 :: wrapIf (decide (lev b < o.lev + 1)) (fmt b))
  | .neg a => 45 :: wrapIf (decide (lev a < 4)) (fmt a)
  | .pow a n => wrapIf (decide (lev a < 5)) (fmt a) ++ (32 :: 94 :: 32 :: numL n)
  | .map p a => wMap ++ (40 :: 91 :: (numsTx p ++ (93 :: 44 :: 32 :: (fmt a ++ [41]))))
  | .sums a n => wSums ++ (40 :: (fmt a ++ (44 :: 32 :: (numL n ++ [41]))))
  | .prods a n => wProds ++ (40 :: (fmt a ++ (44 :: 32 :: (numL n ++ [41]))))
  | .dist a => wDist ++ (40 :: (fmt a ++ [41]))
  | .comm a b => wComm ++ (40 :: (fmt a ++ (44 :: 32 :: (fmt b ++ [41]))))
  | .wout a b => wWout ++ (40 :: (fmt a ++ (44 :: 32 :: (fmt b ++ [41]))))
def fmtw (l : Nat) (T : Tm) : Tx := wrapIf (decide (lev T < l)) (fmt T)

/-! ### valid trees -/
def RtOk (q : Rt) : Prop := 0 < q.2 ∧ Int.gcd q.1 q.2 = 1 ∧ q.1.natAbs < 10 ^ 100 ∧ q.2.natAbs < 10 ^ 100
def NmOk (s : Tx) : Prop := s ≠ [] ∧ s.length ≤ 8 ∧ ∀ c ∈ s, isL c = true
def NuOk (n : Nat) : Prop := n < 10 ^ 100
def PoOk (p : List Rt) : Prop := (∀ q ∈ p, RtOk q) ∧ trim p = p
def Ok : Tm → Prop
  | .name s => NmOk s
  | .list qs => ∀ q ∈ qs, RtOk q
  | .roots p => PoOk p ∧ p ≠ []
  | .unity n => NuOk n
  | .bin _ a b => Ok a ∧ Ok b
  | .neg a => Ok a
  | .pow a n => Ok a ∧ NuOk n
  | .map p a => PoOk p ∧ Ok a
  | .sums a n => Ok a ∧ NuOk n
  | .prods a n => Ok a ∧ NuOk n
  | .dist a => Ok a
  | .comm a b => Ok a ∧ Ok b
  | .wout a b => Ok a ∧ Ok b
/-- depth of round parentheses in the canonical text -/
def pdI (b : Bool) (n : Nat) : Nat := if b = true then n + 1 else n
def pd : Tm → Nat
  | .name _ => 0
  | .list _ => 0
  | .roots _ => 1
  | .unity _ => 1
  | .bin o a b => max (pdI (decide (lev a < o.lev)) (pd a)) (pdI (decide (lev b < o.lev + 1)) (pd b))
  | .neg a => pdI (decide (lev a < 4)) (pd a)
  | .pow a _ => pdI (decide (lev a < 5)) (pd a)
  | .map _ a => pd a + 1
  | .sums a _ => pd a + 1
  | .prods a _ => pd a + 1
  | .dist a => pd a + 1
  | .comm a b => max (pd a) (pd b) + 1
  | .wout a b => max (pd a) (pd b) + 1
def pdw (l : Nat) (T : Tm) : Nat := pdI (decide (lev T < l)) (pd T)
end Rb
set_option maxRecDepth 100000
set_option maxHeartbeats 4000000
namespace Rb
open PySem
open TL (numL)
/-! ### the tokens of a canonical text -/
def intTk (i : Int) : List Tx := if i < 0 then [[45], numL i.natAbs] else [numL i.natAbs]
def tkRt (q : Rt) : List Tx := if q.2 = 1 then intTk q.1 else intTk q.1 ++ [47] :: intTk q.2
def tkNums : List Rt → List Tx
  | [] => []
  | [q] => tkRt q
  | q :: q2 :: r => tkRt q ++ [44] :: tkNums (q2 :: r)
def wrapTk (b : Bool) (t : List Tx) : List Tx := if b = true then [40] :: (t ++ [[41]]) else t
def tk : Tm → List Tx
  | .name s => [s]
  | .list qs => [123] :: (tkNums qs ++ [[125]])
  | .roots p => wRoots :: [40] :: [91] :: (tkNums p ++ [[93], [41]])
  | .unity n => [wUnity, [40], numL n, [41]]
  | .bin o a b => wrapTk (decide (lev a < o.lev)) (tk a) ++ ([o.sym] :: wrapTk (decide (lev b < o.lev + 1)) (tk b))
  | .neg a => [45] :: wrapTk (decide (lev a < 4)) (tk a)
  | .pow a n => wrapTk (decide (lev a < 5)) (tk a) ++ [[94], numL n]
  | .map p a => wMap :: [40] :: [91] :: (tkNums p ++ ([93] :: [44] :: (tk a ++ [[41]])))
  | .sums a n => wSums :: [40] :: (tk a ++ [[44], numL n, [41]])
  | .prods a n => wProds :: [40] :: (tk a ++ [[44], numL n, [41]])
  | .dist a => wDist :: [40] :: (tk a ++ [[41]])
  | .comm a b => wComm :: [40] :: (tk a ++ ([44] :: (tk b ++ [[41]])))
  | .wout a b => wWout :: [40] :: (tk a ++ ([44] :: (tk b ++ [[41]])))
def tkw (l : Nat) (T : Tm) : List Tx := wrapTk (decide (lev T < l)) (tk T)

/-! ### scanning it -/
theorem scan_nil : scan [] = [] := by rw [scan]
theorem scan_L {c : Nat} {r : Tx} (h : isL c = true) : scan (c :: r) = (c :: r.takeWhile isL) :: scan (r.dropWhile isL) := by rw [scan, if_pos h]
theorem isD_notL {c : Nat} (h : isD c = true) : isL c = false := by
  unfold isD at h
  unfold isL
  simp only [Bool.and_eq_true, decide_eq_true_eq] at h
  simp only [Bool.and_eq_false_iff, decide_eq_false_iff_not]
  omega
theorem scan_D {c : Nat} {r : Tx} (h : isD c = true) : scan (c :: r) = (c :: r.takeWhile isD) :: scan (r.dropWhile isD) := by
  rw [scan, if_neg (by rw [isD_notL h]; exact Bool.false_ne_true), if_pos h]
theorem scan_S {r : Tx} : scan (32 :: r) = scan r := by
  rw [scan, if_neg (by decide), if_neg (by decide), if_pos rfl]
theorem scan_M {c : Nat} {r : Tx} (h1 : isL c = false) (h2 : isD c = false) (h3 : c ≠ 32) : scan (c :: r) = [c] :: scan r := by
  rw [scan, if_neg (by rw [h1]; exact Bool.false_ne_true), if_neg (by rw [h2]; exact Bool.false_ne_true), if_neg h3]
def Free (y : Tx) : Prop := ∀ c r, y = c :: r → isL c = false ∧ isD c = false
def Good (x : Tx) (ts : List Tx) : Prop := ∀ y, Free y → scan (x ++ y) = ts ++ scan y
def AnyS (x : Tx) (ts : List Tx) : Prop := ∀ y, scan (x ++ y) = ts ++ scan y
theorem AnyS.good {x : Tx} {ts : List Tx} (h : AnyS x ts) : Good x ts := fun y _ => h y
theorem take_all {p : Nat → Bool} : ∀ {s y : Tx}, (∀ c ∈ s, p c = true) → (∀ c r, y = c :: r → p c = false) → (s ++ y).takeWhile p = s ∧ (s ++ y).dropWhile p = y
  | [], y, _, hy => by
    cases y with
    | nil => exact ⟨rfl, rfl⟩
    | cons c r =>
      have := hy c r rfl
      constructor
      · show List.takeWhile p (c :: r) = []
        rw [List.takeWhile_cons, this] <;> rfl
      · show List.dropWhile p (c :: r) = c :: r
        rw [List.dropWhile_cons, this] <;> rfl
  | a :: s, y, hs, hy => by
    obtain ⟨i1, i2⟩ := take_all (s := s) (y := y) (fun c hc => hs c (List.mem_cons_of_mem _ hc)) hy
    have ha := hs a List.mem_cons_self
    constructor
    · show List.takeWhile p (a :: (s ++ y)) = a :: s
      rw [List.takeWhile_cons, ha, if_pos rfl, i1]
    · show List.dropWhile p (a :: (s ++ y)) = y
      rw [List.dropWhile_cons, ha, if_pos rfl, i2]
theorem good_L {s : Tx} (h : s ≠ []) (hs : ∀ c ∈ s, isL c = true) : Good s [s] := fun y hy => by
  cases s with
  | nil => exact absurd rfl h
  | cons c s =>
    obtain ⟨i1, i2⟩ := take_all (p := isL) (s := s) (y := y) (fun d hd => hs d (List.mem_cons_of_mem _ hd)) fun c r e => (hy c r e).1
    show scan (c :: (s ++ y)) = _
    rw [scan_L (hs c List.mem_cons_self), i1, i2]
    rfl
theorem good_D {s : Tx} (h : s ≠ []) (hs : ∀ c ∈ s, isD c = true) : Good s [s] := fun y hy => by
  cases s with
  | nil => exact absurd rfl h
  | cons c s =>
    obtain ⟨i1, i2⟩ := take_all (p := isD) (s := s) (y := y) (fun d hd => hs d (List.mem_cons_of_mem _ hd)) fun c r e => (hy c r e).2
    show scan (c :: (s ++ y)) = _
    rw [scan_D (hs c List.mem_cons_self), i1, i2]
    rfl
def Mark (c : Nat) : Prop := isL c = false ∧ isD c = false ∧ c ≠ 32
theorem any_M {c : Nat} (h : Mark c) : AnyS [c] [[c]] := fun y => scan_M h.1 h.2.1 h.2.2
theorem any_S : AnyS [32] [] := fun y => scan_S
theorem any_nil : AnyS [] [] := fun y => rfl
theorem AnyS.cat {x y : Tx} {ts us : List Tx} (h : AnyS x ts) (k : AnyS y us) : AnyS (x ++ y) (ts ++ us) := fun z => by
  rw [List.append_assoc, h, k, List.append_assoc]
theorem AnyS.catG {x y : Tx} {ts us : List Tx} (h : AnyS x ts) (k : Good y us) : Good (x ++ y) (ts ++ us) := fun z hz => by
  rw [List.append_assoc, h, k z hz, List.append_assoc]
theorem Good.mark {x y : Tx} {c : Nat} {ts us : List Tx} (h : Good x ts) (hc : isL c = false ∧ isD c = false) (k : AnyS (c :: y) us) : AnyS (x ++ (c :: y)) (ts ++ us) := fun z => by
  rw [List.append_assoc, h _ (fun d r e => by cases e; exact hc), k, List.append_assoc]
theorem Good.markG {x y : Tx} {c : Nat} {ts us : List Tx} (h : Good x ts) (hc : isL c = false ∧ isD c = false) (k : Good (c :: y) us) : Good (x ++ (c :: y)) (ts ++ us) := fun z hz => by
  rw [List.append_assoc, h _ (fun d r e => by cases e; exact hc), k z hz, List.append_assoc]
theorem AnyS.cons {c : Nat} {y : Tx} {us : List Tx} (h : Mark c) (k : AnyS y us) : AnyS (c :: y) ([c] :: us) := (any_M h).cat k
theorem Good.cons {c : Nat} {y : Tx} {us : List Tx} (h : Mark c) (k : Good y us) : Good (c :: y) ([c] :: us) := (any_M h).catG k
theorem AnyS.sp {y : Tx} {us : List Tx} (k : AnyS y us) : AnyS (32 :: y) us := any_S.cat k
theorem Good.sp {y : Tx} {us : List Tx} (k : Good y us) : Good (32 :: y) us := any_S.catG k
theorem mk_of {c : Nat} (h : (!isL c && !isD c && decide (c ≠ 32)) = true) : Mark c := by
  simp only [Bool.and_eq_true, Bool.not_eq_true', decide_eq_true_eq] at h
  exact ⟨h.1.1, h.1.2, h.2⟩
theorem Mark.m {c : Nat} (h : Mark c) : isL c = false ∧ isD c = false := ⟨h.1, h.2.1⟩
theorem numL_D (n : Nat) : ∀ c ∈ numL n, isD c = true := fun c hc => by
  have := TL.numL_digits n c hc
  unfold isD
  simp only [Bool.and_eq_true, decide_eq_true_eq]
  exact this
theorem good_num (n : Nat) : Good (numL n) [numL n] := good_D (TL.numL_ne n) (numL_D n)
theorem good_int (i : Int) : Good (intTx i) (intTk i) := by
  unfold intTx intTk
  split
  · exact Good.cons (mk_of (by decide)) (good_num _)
  · exact good_num _
theorem good_rt (q : Rt) : Good (numTx q) (tkRt q) := by
  unfold numTx tkRt
  split
  · exact good_int _
  · exact (good_int _).markG (by decide) (Good.cons (mk_of (by decide)) (good_int _))
/-- nums, then a mark -/
theorem any_nums {c : Nat} {y : Tx} {us : List Tx} (hc : Mark c) (k : AnyS (c :: y) us) : ∀ qs : List Rt, AnyS (numsTx qs ++ (c :: y)) (tkNums qs ++ us)
  | [] => k
  | [q] => (good_rt q).mark hc.m k
  | q :: q2 :: r => by
    have ih := any_nums hc k (q2 :: r)
    show AnyS ((numTx q ++ ([44, 32] ++ numsTx (q2 :: r))) ++ (c :: y)) ((tkRt q ++ [44] :: tkNums (q2 :: r)) ++ us)
    have e1 : (numTx q ++ ([44, 32] ++ numsTx (q2 :: r))) ++ (c :: y) = numTx q ++ (44 :: 32 :: (numsTx (q2 :: r) ++ (c :: y))) := by
      rw [List.append_assoc]
      rfl
    have e2 : (tkRt q ++ [44] :: tkNums (q2 :: r)) ++ us = tkRt q ++ ([44] :: (tkNums (q2 :: r) ++ us)) := by
      rw [List.append_assoc]
      rfl
    rw [e1, e2]
    exact (good_rt q).mark (c := 44) (by decide) (AnyS.cons (mk_of (by decide)) (AnyS.sp ih))
theorem sym_mark (o : Bop) : Mark o.sym := by cases o <;> exact mk_of (by decide)
theorem good_wrap {x : Tx} {ts : List Tx} (b : Bool) (h : Good x ts) : Good (wrapIf b x) (wrapTk b ts) := by
  cases b with
  | false => exact h
  | true => exact AnyS.good (AnyS.cons (mk_of (by decide)) (h.mark (c := 41) (y := []) (us := [[41]]) (by decide) (AnyS.cons (mk_of (by decide)) any_nil)))
theorem good_word {w : Tx} (h : (!w.isEmpty && w.all isL) = true) : Good w [w] := by
  simp only [Bool.and_eq_true, Bool.not_eq_true', List.all_eq_true, List.isEmpty_eq_false_iff] at h
  exact good_L h.1 h.2
theorem any_open {w y : Tx} {us : List Tx} (h : (!w.isEmpty && w.all isL) = true) (k : AnyS y us) : AnyS (w ++ (40 :: y)) (w :: [40] :: us) :=
  (good_word h).mark (c := 40) (y := y) (us := [40] :: us) (by decide) (AnyS.cons (mk_of (by decide)) k)
theorem any_close : AnyS [41] [[41]] := AnyS.cons (mk_of (by decide)) any_nil
theorem good_fmt : ∀ T : Tm, Ok T → Good (fmt T) (tk T)
  | .name s, h => good_L h.1 h.2.2
  | .list qs, h => AnyS.good (AnyS.cons (mk_of (by decide)) (any_nums (mk_of (by decide)) (AnyS.cons (mk_of (by decide)) any_nil) qs))
  | .roots p, h => AnyS.good (any_open (by decide) (AnyS.cons (mk_of (by decide)) (any_nums (c := 93) (y := [41]) (us := [[93], [41]]) (mk_of (by decide)) (AnyS.cons (mk_of (by decide)) any_close) p)))
  | .unity n, h => AnyS.good (any_open (by decide) ((good_num n).mark (c := 41) (y := []) (us := [[41]]) (by decide) any_close))
  | .bin o a b, h => (good_wrap _ (good_fmt a h.1)).markG (c := 32) (by decide) (Good.sp (Good.cons (sym_mark o) (Good.sp (good_wrap _ (good_fmt b h.2)))))
  | .neg a, h => Good.cons (mk_of (by decide)) (good_wrap _ (good_fmt a h))
  | .pow a n, h => (good_wrap _ (good_fmt a h.1)).markG (c := 32) (by decide) (Good.sp (Good.cons (mk_of (by decide)) (Good.sp (good_num n))))
  | .map p a, h => AnyS.good (any_open (by decide) (AnyS.cons (mk_of (by decide)) (any_nums (c := 93) (y := 44 :: 32 :: (fmt a ++ [41])) (us := [93] :: [44] :: (tk a ++ [[41]])) (mk_of (by decide))
      (AnyS.cons (mk_of (by decide)) (AnyS.cons (mk_of (by decide)) (AnyS.sp ((good_fmt a h.2).mark (c := 41) (y := []) (us := [[41]]) (by decide) any_close)))) p)))
  | .sums a n, h => AnyS.good (any_open (by decide) ((good_fmt a h.1).mark (c := 44) (y := 32 :: (numL n ++ [41])) (us := [[44], numL n, [41]]) (by decide)
      (AnyS.cons (mk_of (by decide)) (AnyS.sp ((good_num n).mark (c := 41) (y := []) (us := [[41]]) (by decide) any_close)))))
  | .prods a n, h => AnyS.good (any_open (by decide) ((good_fmt a h.1).mark (c := 44) (y := 32 :: (numL n ++ [41])) (us := [[44], numL n, [41]]) (by decide)
      (AnyS.cons (mk_of (by decide)) (AnyS.sp ((good_num n).mark (c := 41) (y := []) (us := [[41]]) (by decide) any_close)))))
  | .dist a, h => AnyS.good (any_open (by decide) ((good_fmt a h).mark (c := 41) (y := []) (us := [[41]]) (by decide) any_close))
  | .comm a b, h => AnyS.good (any_open (by decide) ((good_fmt a h.1).mark (c := 44) (y := 32 :: (fmt b ++ [41])) (us := [44] :: (tk b ++ [[41]])) (by decide)
      (AnyS.cons (mk_of (by decide)) (AnyS.sp ((good_fmt b h.2).mark (c := 41) (y := []) (us := [[41]]) (by decide) any_close)))))
  | .wout a b, h => AnyS.good (any_open (by decide) ((good_fmt a h.1).mark (c := 44) (y := 32 :: (fmt b ++ [41])) (us := [44] :: (tk b ++ [[41]])) (by decide)
      (AnyS.cons (mk_of (by decide)) (AnyS.sp ((good_fmt b h.2).mark (c := 41) (y := []) (us := [[41]]) (by decide) any_close)))))
theorem scan_fmt {T : Tm} (h : Ok T) : scan (fmt T) = tk T := by
  have e := good_fmt T h [] (fun c r z => by cases z)
  rw [List.append_nil, scan_nil, List.append_nil] at e
  exact e
end Rb
set_option maxRecDepth 100000
set_option maxHeartbeats 4000000
namespace Rb
open PySem
open TL (numL)
/-! ### numerals -/
theorem numL_zero : numL 0 = [48] := TL.numL_lt (by decide)
theorem numL_head : ∀ (n : Nat) (r : Tx), numL n = 48 :: r → r = []
  | n, r, e => by
    by_cases h : n < 10
    · rw [TL.numL_lt h] at e
      injection e with _ e2
      exact e2.symm
    · rw [TL.numL_step (by omega)] at e
      cases h2 : numL (n / 10) with
      | nil => exact absurd h2 (TL.numL_ne _)
      | cons c r' =>
        rw [show numL (n / 10) = c :: r' from h2] at e
        have e' : c :: (r' ++ [48 + n % 10]) = 48 :: r := e
        injection e' with e1 e2
        rw [e1] at h2
        have q := numL_head (n / 10) r' h2
        rw [q, ← numL_zero] at h2
        have z := TL.numL_inj h2
        omega
  termination_by n => n
  decreasing_by omega
theorem tokNat_num {n : Nat} (h : NuOk n) : tokNat (numL n) = some n := by
  cases e : numL n with
  | nil => exact absurd e (TL.numL_ne _)
  | cons c r =>
    have hD := numL_D n c (by rw [e]; exact List.mem_cons_self)
    have hl : (numL n).length ≤ 100 := TL.numL_len (by decide) h
    have hv := TL.numL_val n
    rw [e] at hv
    rw [e] at hl
    show (if isD c = true ∧ (c :: r).length ≤ 100 ∧ (c ≠ 48 ∨ r = []) then some (NumText.digitsVal (c :: r)) else none) = some n
    have hor : c ≠ 48 ∨ r = [] := by
      by_cases hc : c = 48
      · rw [hc] at e
        exact .inr (numL_head n r e)
      · exact .inl hc
    rw [if_pos ⟨hD, hl, hor⟩, hv]
theorem natural_num {n : Nat} (h : NuOk n) (r : List Tx) : natural (numL n :: r) = some (n, r) := by
  show (match tokNat (numL n) with | none => none | some n => some (n, r)) = some (n, r)
  rw [tokNat_num h]
theorem numL_ne1 (n c : Nat) (hc : isD c = false) : numL n ≠ [c] := fun e => by
  have := numL_D n c (by rw [e]; exact List.mem_cons_self)
  rw [hc] at this
  cases this
theorem minus1_num (n : Nat) (r : List Tx) : minus1 (numL n :: r) = (false, numL n :: r) := by
  show (if numL n = [45] then (true, r) else (false, numL n :: r)) = _
  rw [if_neg (numL_ne1 n 45 (by decide))]
theorem minus1_neg (r : List Tx) : minus1 ([45] :: r) = (true, r) := by
  show (if ([45] : Tx) = [45] then (true, r) else (false, [45] :: r)) = _
  rw [if_pos rfl]
theorem low_self {q : Rt} (h : RtOk q) : low q.1 q.2 = q := by
  unfold low
  rw [h.2.1]
  obtain ⟨a, b⟩ := q
  show (a / ((1 : Nat) : Int), b / ((1 : Nat) : Int)) = (a, b)
  rw [show ((1 : Nat) : Int) = 1 from rfl, Int.ediv_one, Int.ediv_one]
def NotSl (r : List Tx) : Prop := ∃ t r', r = t :: r' ∧ t ≠ [47]
theorem intTk_pos {i : Int} (h : 0 < i) : intTk i = [numL i.natAbs] := by
  unfold intTk
  rw [if_neg (by omega)]
theorem under_rt {q : Rt} (h : RtOk q) {r : List Tx} (hr : NotSl r) : under q.1 ((if q.2 = 1 then [] else [47] :: intTk q.2) ++ r) = some (q, r) := by
  obtain ⟨t, r', rfl, ht⟩ := hr
  by_cases h1 : q.2 = 1
  · rw [if_pos h1]
    have e : under q.1 (t :: r') = some (low q.1 1, t :: r') := if_neg ht
    show under q.1 (t :: r') = _
    rw [e, ← h1, low_self h]
  · rw [if_neg h1, intTk_pos h.1]
    have e0 : under q.1 ([47] :: numL q.2.natAbs :: t :: r') = (if numL q.2.natAbs = [48] then none else match natural (numL q.2.natAbs :: t :: r') with | none => none | some (d, ts3) => some (low q.1 d, ts3)) := by
      unfold under
      exact if_pos rfl
    show under q.1 ([47] :: numL q.2.natAbs :: t :: r') = _
    rw [e0, if_neg (fun e => by
      rw [← numL_zero] at e
      have := TL.numL_inj e
      have := h.1
      omega), natural_num h.2.2.2]
    show some (low q.1 ((q.2.natAbs : Nat) : Int), t :: r') = _
    rw [show ((q.2.natAbs : Nat) : Int) = q.2 by have := h.1; omega, low_self h]
theorem tkRt_eq (q : Rt) : tkRt q = intTk q.1 ++ (if q.2 = 1 then [] else [47] :: intTk q.2) := by
  unfold tkRt
  split <;> simp
theorem rational_rt {q : Rt} (h : RtOk q) {r : List Tx} (hr : NotSl r) : rational (tkRt q ++ r) = some (q, r) := by
  have u := under_rt h hr
  rw [tkRt_eq, List.append_assoc]
  generalize hz : (if q.2 = 1 then [] else [47] :: intTk q.2) ++ r = z at u
  unfold rational intTk
  by_cases hn : q.1 < 0
  · rw [if_pos hn]
    show (match natural (minus1 ([45] :: numL q.1.natAbs :: z)).2 with | none => none | some (n, ts2) => under (sgn (minus1 ([45] :: numL q.1.natAbs :: z)).1 n) ts2) = _
    rw [minus1_neg]
    show (match natural (numL q.1.natAbs :: z) with | none => none | some (n, ts2) => under (sgn true n) ts2) = _
    rw [natural_num h.2.2.1]
    show under (sgn true q.1.natAbs) z = _
    rw [show sgn true q.1.natAbs = q.1 by unfold sgn; rw [if_pos rfl]; omega]
    exact u
  · rw [if_neg hn]
    show (match natural (minus1 (numL q.1.natAbs :: z)).2 with | none => none | some (n, ts2) => under (sgn (minus1 (numL q.1.natAbs :: z)).1 n) ts2) = _
    rw [minus1_num]
    show (match natural (numL q.1.natAbs :: z) with | none => none | some (n, ts2) => under (sgn false n) ts2) = _
    rw [natural_num h.2.2.1]
    show under (sgn false q.1.natAbs) z = _
    rw [show sgn false q.1.natAbs = q.1 by unfold sgn; rw [if_neg Bool.false_ne_true]; omega]
    exact u
/-! ### lists of rationals -/
def seps : List Rt → List Tx
  | [] => []
  | q :: r => [44] :: (tkRt q ++ seps r)
theorem tkNums_cons (q : Rt) : ∀ r, tkNums (q :: r) = tkRt q ++ seps r
  | [] => by
    show tkRt q = tkRt q ++ []
    rw [List.append_nil]
  | q2 :: r => by
    show tkRt q ++ [44] :: tkNums (q2 :: r) = tkRt q ++ ([44] :: (tkRt q2 ++ seps r))
    rw [tkNums_cons q2 r]
theorem tkRt_ne (q : Rt) : ∃ t ts, tkRt q = t :: ts ∧ (t = [45] ∨ ∃ n, t = numL n) := by
  rw [tkRt_eq]
  unfold intTk
  by_cases h : q.1 < 0
  · rw [if_pos h]
    exact ⟨_, _, rfl, .inl rfl⟩
  · rw [if_neg h]
    exact ⟨_, _, rfl, .inr ⟨_, rfl⟩⟩
def Clo (cl : Tx) : Prop := cl = [125] ∨ cl = [93]
theorem Clo.ne {cl : Tx} (h : Clo cl) {t : Tx} (ht : t = [45] ∨ (∃ n, t = numL n) ∨ t = [44]) : t ≠ cl := by
  rcases h with rfl | rfl <;> rcases ht with rfl | ⟨n, rfl⟩ | rfl
  · decide
  · exact numL_ne1 n _ (by decide)
  · decide
  · decide
  · exact numL_ne1 n _ (by decide)
  · decide
theorem Clo.nsl {cl : Tx} (h : Clo cl) (r : List Tx) : NotSl (cl :: r) := ⟨cl, r, rfl, by rcases h with rfl | rfl <;> decide⟩
theorem seps_nsl {cl : Tx} (h : Clo cl) (r : List Tx) : ∀ qs, NotSl (seps qs ++ (cl :: r))
  | [] => h.nsl r
  | q :: qs => ⟨[44], _, rfl, by decide⟩
theorem nums_seps {cl : Tx} (hc : Clo cl) (r : List Tx) : ∀ (qs acc : List Rt), acc ≠ [] → (∀ q ∈ qs, RtOk q) → numsLoop cl acc (seps qs ++ (cl :: r)) = some (acc ++ qs, r)
  | [], acc, _, _ => by
    show numsLoop cl acc (cl :: r) = _
    rw [numsLoop, if_pos rfl, List.append_nil]
  | q :: qs, acc, ha, hq => by
    have ih := nums_seps hc r qs (acc ++ [q]) (by simp) fun z hz => hq z (List.mem_cons_of_mem _ hz)
    have hr := rational_rt (hq q List.mem_cons_self) (seps_nsl hc r qs)
    show numsLoop cl acc ([44] :: ((tkRt q ++ seps qs) ++ (cl :: r))) = _
    rw [List.append_assoc]
    have he : acc.isEmpty = false := by
      cases acc with
      | nil => exact absurd rfl ha
      | cons _ _ => rfl
    rw [numsLoop, if_neg (hc.ne (.inr (.inr rfl))), he]
    show (match rational (tkRt q ++ (seps qs ++ (cl :: r))) with | none => none | some (q, ts2) => _) = _
    rw [hr]
    show (if h : (seps qs ++ (cl :: r)).length < ([44] :: (tkRt q ++ (seps qs ++ (cl :: r)))).length then numsLoop cl (acc ++ [q]) (seps qs ++ (cl :: r)) else none) = _
    rw [dif_pos (by rw [List.length_cons, List.length_append (as := tkRt q)]; omega), ih, List.append_assoc]
    rfl
theorem nums_all {cl : Tx} (hc : Clo cl) (r : List Tx) {qs : List Rt} (hq : ∀ q ∈ qs, RtOk q) : numsLoop cl [] (tkNums qs ++ (cl :: r)) = some (qs, r) := by
  cases qs with
  | nil =>
    show numsLoop cl [] (cl :: r) = _
    rw [numsLoop, if_pos rfl]
  | cons q qs =>
    have hr := rational_rt (hq q List.mem_cons_self) (seps_nsl hc r qs)
    have ih := nums_seps hc r qs ([] ++ [q]) (by simp) fun z hz => hq z (List.mem_cons_of_mem _ hz)
    rw [tkNums_cons, List.append_assoc]
    obtain ⟨t, ts, et, ht⟩ := tkRt_ne q
    rw [et] at hr ⊢
    show numsLoop cl [] (t :: (ts ++ (seps qs ++ (cl :: r)))) = _
    have hr' : rational (t :: (ts ++ (seps qs ++ (cl :: r)))) = some (q, seps qs ++ (cl :: r)) := hr
    rw [numsLoop, if_neg (hc.ne (ht.elim .inl fun z => .inr (.inl z)))]
    show (match rational (t :: (ts ++ (seps qs ++ (cl :: r)))) with | none => none | some (q, ts2) => _) = _
    rw [hr']
    show (if h : (seps qs ++ (cl :: r)).length < (t :: (ts ++ (seps qs ++ (cl :: r)))).length then numsLoop cl ([] ++ [q]) (seps qs ++ (cl :: r)) else none) = _
    rw [dif_pos (by rw [List.length_cons, List.length_append (as := ts)]; omega), ih]
    rfl
theorem numbers_all {op cl : Tx} (hc : Clo cl) (r : List Tx) {qs : List Rt} (hq : ∀ q ∈ qs, RtOk q) : numbers op cl (op :: (tkNums qs ++ (cl :: r))) = some (qs, r) := by
  show (if op = op then numsLoop cl [] (tkNums qs ++ (cl :: r)) else none) = _
  rw [if_pos rfl, nums_all hc r hq]

/-! ### terms -/
def Fol (l : Nat) (r : List Tx) : Prop := ∃ t r', r = t :: r' ∧ t ≠ [40] ∧ (l ≤ 4 → t ≠ [94]) ∧ ∀ l', l < l' → opAt l' t = none
structure G (T : Tm) (d : Nat) : Prop where
  g6 : pdw 6 T ≤ d → ∀ r, Fol 6 r → atomM (rcd d) (tkw 6 T ++ r) = some (T, r)
  g5 : pdw 5 T ≤ d → ∀ r, Fol 5 r → powM (rcd d) (tkw 5 T ++ r) = powLoop T r
  g4 : pdw 4 T ≤ d → ∀ r, Fol 4 r → lv (rcd d) 0 (tkw 4 T ++ r) = some (T, r)
  g3 : pdw 3 T ≤ d → ∀ r, Fol 3 r → lv (rcd d) 1 (tkw 3 T ++ r) = binLoop 3 (lv (rcd d) 0) T r
  g2 : pdw 2 T ≤ d → ∀ r, Fol 2 r → lv (rcd d) 2 (tkw 2 T ++ r) = binLoop 2 (lv (rcd d) 1) T r
  g1 : pdw 1 T ≤ d → ∀ r, Fol 1 r → lv (rcd d) 3 (tkw 1 T ++ r) = binLoop 1 (lv (rcd d) 2) T r
/-- at its own level -/
structure Base (T : Tm) (d : Nat) : Prop where
  b6 : lev T = 6 → pd T ≤ d → ∀ r, Fol 6 r → atomM (rcd d) (tk T ++ r) = some (T, r)
  b5 : lev T = 5 → pd T ≤ d → ∀ r, Fol 5 r → powM (rcd d) (tk T ++ r) = powLoop T r
  b4 : lev T = 4 → pd T ≤ d → ∀ r, Fol 4 r → lv (rcd d) 0 (tk T ++ r) = some (T, r)
  b3 : lev T = 3 → pd T ≤ d → ∀ r, Fol 3 r → lv (rcd d) 1 (tk T ++ r) = binLoop 3 (lv (rcd d) 0) T r
  b2 : lev T = 2 → pd T ≤ d → ∀ r, Fol 2 r → lv (rcd d) 2 (tk T ++ r) = binLoop 2 (lv (rcd d) 1) T r
  b1 : lev T = 1 → pd T ≤ d → ∀ r, Fol 1 r → lv (rcd d) 3 (tk T ++ r) = binLoop 1 (lv (rcd d) 2) T r
theorem tkw_lt {l : Nat} {T : Tm} (h : lev T < l) : tkw l T = [40] :: (tk T ++ [[41]]) := by
  unfold tkw
  rw [decide_eq_true h]
  rfl
theorem tkw_ge {l : Nat} {T : Tm} (h : l ≤ lev T) : tkw l T = tk T := by
  unfold tkw
  rw [decide_eq_false (by omega)]
  rfl
theorem pdw_lt {l : Nat} {T : Tm} (h : lev T < l) : pdw l T = pd T + 1 := by
  unfold pdw
  rw [decide_eq_true h]
  rfl
theorem pdw_ge {l : Nat} {T : Tm} (h : l ≤ lev T) : pdw l T = pd T := by
  unfold pdw
  rw [decide_eq_false (by omega)]
  rfl
theorem tkw_up {l : Nat} {T : Tm} (h : lev T ≠ l) : tkw l T = tkw (l + 1) T := by
  by_cases h2 : lev T < l
  · rw [tkw_lt h2, tkw_lt (by omega)]
  · rw [tkw_ge (by omega), tkw_ge (by omega)]
theorem pdw_up {l : Nat} {T : Tm} (h : lev T ≠ l) : pdw l T = pdw (l + 1) T := by
  by_cases h2 : lev T < l
  · rw [pdw_lt h2, pdw_lt (by omega)]
  · rw [pdw_ge (by omega), pdw_ge (by omega)]
theorem lev_le (T : Tm) : 1 ≤ lev T ∧ lev T ≤ 6 := by
  cases T with
  | bin o a b => cases o <;> simp [lev, Bop.lev]
  | _ => simp [lev]
theorem Fol.up {l : Nat} {r : List Tx} (h : Fol l r) : Fol (l + 1) r := by
  obtain ⟨t, r', e, h1, h2, h3⟩ := h
  exact ⟨t, r', e, h1, fun z => h2 (by omega), fun l' z => h3 l' (by omega)⟩
theorem head5 : ∀ T : Tm, Ok T → ∃ t ts, tkw 5 T = t :: ts ∧ t ≠ [45]
  | .name s, h => ⟨s, [], rfl, fun e => by
      have := h.2.2 45 (by rw [e]; exact List.mem_cons_self)
      exact absurd this (by decide)⟩
  | .list qs, _ => ⟨_, _, rfl, by decide⟩
  | .roots p, _ => ⟨_, _, rfl, by decide⟩
  | .unity n, _ => ⟨_, _, rfl, by decide⟩
  | .bin o a b, _ => ⟨_, _, tkw_lt (by cases o <;> simp [lev, Bop.lev]), by decide⟩
  | .neg a, _ => ⟨_, _, tkw_lt (by simp [lev]), by decide⟩
  | .pow a n, h => by
    obtain ⟨t, ts, e, ht⟩ := head5 a h.1
    refine ⟨t, ts ++ [[94], numL n], ?_, ht⟩
    rw [tkw_ge (Nat.le_refl 5)]
    show tkw 5 a ++ _ = _
    rw [e]
    rfl
  | .map p a, _ => ⟨_, _, rfl, by decide⟩
  | .sums a n, _ => ⟨_, _, rfl, by decide⟩
  | .prods a n, _ => ⟨_, _, rfl, by decide⟩
  | .dist a, _ => ⟨_, _, rfl, by decide⟩
  | .comm a b, _ => ⟨_, _, rfl, by decide⟩
  | .wout a b, _ => ⟨_, _, rfl, by decide⟩
theorem powLoop_stop {T : Tm} {t : Tx} {r : List Tx} (h : t ≠ [94]) : powLoop T (t :: r) = some (T, t :: r) := by
  cases r with
  | nil => exact if_neg h
  | cons t2 r => exact if_neg h
theorem binLoop_stop {l : Nat} {sub : List Tx → Res Tm} {T : Tm} {t : Tx} {r : List Tx} (h : opAt l t = none) : binLoop l sub T (t :: r) = some (T, t :: r) := by
  rw [binLoop, h]
theorem lv_succ {rec : Option (List Tx → Res Tm)} {k : Nat} {ts r : List Tx} {T : Tm} (h : lv rec k ts = some (T, r)) : lv rec (k + 1) ts = binLoop (3 - k) (lv rec k) T r := by
  show (match lv rec k ts with | none => none | some (a, r) => binLoop (3 - k) (lv rec k) a r) = _
  rw [h]
theorem minuses_not {t : Tx} {r : List Tx} (h : t ≠ [45]) : minuses (t :: r) = (0, t :: r) := if_neg h
theorem minuses_yes {r : List Tx} : minuses ([45] :: r) = ((minuses r).1 + 1, (minuses r).2) := if_pos rfl
theorem signed_not {rec : Option (List Tx → Res Tm)} {t : Tx} {r : List Tx} (h : t ≠ [45]) : signed rec (t :: r) = (match powM rec (t :: r) with | none => none | some (p, r) => some (p, r)) := by
  unfold signed
  rw [minuses_not h]
  rfl
theorem signed_neg {rec : Option (List Tx → Res Tm)} {r r2 : List Tx} {T : Tm} (h : signed rec r = some (T, r2)) : signed rec ([45] :: r) = some (.neg T, r2) := by
  unfold signed at h ⊢
  rw [minuses_yes]
  show (match powM rec (minuses r).2 with | none => none | some (p, r_1) => some (negs ((minuses r).1 + 1) p, r_1)) = _
  cases e : powM rec (minuses r).2 with
  | none => rw [e] at h; cases h
  | some x =>
    obtain ⟨p, q⟩ := x
    rw [e] at h
    have h' : some (negs (minuses r).1 p, q) = some (T, r2) := h
    cases h'
    rfl
theorem opAt_none {t : Tx} (h : (decide (t ≠ [124]) && decide (t ≠ [43]) && decide (t ≠ [45]) && decide (t ≠ [42]) && decide (t ≠ [47])) = true) (l : Nat) : opAt l t = none := by
  simp only [Bool.and_eq_true, decide_eq_true_eq] at h
  obtain ⟨⟨⟨⟨h1, h2⟩, h3⟩, h4⟩, h5⟩ := h
  unfold opAt
  rw [if_neg h1, if_neg h2, if_neg h3, if_neg h4, if_neg h5]
  repeat (first | rfl | split)
/-- from its own level to all -/
theorem g_of {T : Tm} (hok : Ok T) (hb : ∀ d, Base T d) : ∀ d, G T d := by
  have step : ∀ d, (lev T < 6 → pd T + 1 ≤ d → ∀ r, atomM (rcd d) ([40] :: (tk T ++ [[41]]) ++ r) = some (T, r)) → G T d := by
    intro d wr
    have g6 : pdw 6 T ≤ d → ∀ r, Fol 6 r → atomM (rcd d) (tkw 6 T ++ r) = some (T, r) := fun hp r hr => by
      by_cases h : lev T = 6
      · rw [tkw_ge (by omega)]
        exact (hb d).b6 h (by rw [pdw_ge (by omega)] at hp; exact hp) r hr
      · have hl := (lev_le T).2
        rw [tkw_lt (by omega)]
        exact wr (by omega) (by rw [pdw_lt (by omega)] at hp; exact hp) r
    have g5 : pdw 5 T ≤ d → ∀ r, Fol 5 r → powM (rcd d) (tkw 5 T ++ r) = powLoop T r := fun hp r hr => by
      by_cases h : lev T = 5
      · rw [tkw_ge (by omega)]
        exact (hb d).b5 h (by rw [pdw_ge (by omega)] at hp; exact hp) r hr
      · rw [tkw_up h]
        rw [pdw_up h] at hp
        unfold powM
        rw [g6 hp r hr.up]
    have g4 : pdw 4 T ≤ d → ∀ r, Fol 4 r → lv (rcd d) 0 (tkw 4 T ++ r) = some (T, r) := fun hp r hr => by
      by_cases h : lev T = 4
      · rw [tkw_ge (by omega)]
        exact (hb d).b4 h (by rw [pdw_ge (by omega)] at hp; exact hp) r hr
      · rw [tkw_up h]
        rw [pdw_up h] at hp
        have q := g5 hp r hr.up
        obtain ⟨t, ts, e, ht⟩ := head5 T hok
        rw [e] at q ⊢
        show signed (rcd d) (t :: (ts ++ r)) = _
        rw [signed_not ht]
        rw [show powM (rcd d) (t :: (ts ++ r)) = powLoop T r from q]
        obtain ⟨t2, r', rfl, _, h2, _⟩ := hr
        rw [powLoop_stop (h2 (Nat.le_refl _))]
    have g3 : pdw 3 T ≤ d → ∀ r, Fol 3 r → lv (rcd d) 1 (tkw 3 T ++ r) = binLoop 3 (lv (rcd d) 0) T r := fun hp r hr => by
      by_cases h : lev T = 3
      · rw [tkw_ge (by omega)]
        exact (hb d).b3 h (by rw [pdw_ge (by omega)] at hp; exact hp) r hr
      · rw [tkw_up h]
        rw [pdw_up h] at hp
        exact lv_succ (g4 hp r hr.up)
    have g2 : pdw 2 T ≤ d → ∀ r, Fol 2 r → lv (rcd d) 2 (tkw 2 T ++ r) = binLoop 2 (lv (rcd d) 1) T r := fun hp r hr => by
      by_cases h : lev T = 2
      · rw [tkw_ge (by omega)]
        exact (hb d).b2 h (by rw [pdw_ge (by omega)] at hp; exact hp) r hr
      · rw [tkw_up h]
        rw [pdw_up h] at hp
        have q := g3 hp r hr.up
        obtain ⟨t2, r', rfl, _, h2, h3⟩ := hr
        rw [binLoop_stop (h3 3 (by omega))] at q
        exact lv_succ q
    refine ⟨g6, g5, g4, g3, g2, fun hp r hr => ?_⟩
    by_cases h : lev T = 1
    · rw [tkw_ge (by omega)]
      exact (hb d).b1 h (by rw [pdw_ge (by omega)] at hp; exact hp) r hr
    · rw [tkw_up h]
      rw [pdw_up h] at hp
      have q := g2 hp r hr.up
      obtain ⟨t2, r', rfl, _, h2, h3⟩ := hr
      rw [binLoop_stop (h3 2 (by omega))] at q
      exact lv_succ q
  intro d
  induction d with
  | zero => exact step 0 fun _ h => absurd h (by omega)
  | succ d ih =>
    refine step (d + 1) fun _ hp r => ?_
    have q := ih.g1 (by rw [pdw_ge (lev_le T).1]; omega) ([41] :: r) ⟨[41], r, rfl, by decide, fun _ => by decide, fun l' _ => opAt_none (by decide) l'⟩
    rw [tkw_ge (lev_le T).1, binLoop_stop (by decide)] at q
    have q2 : P d (tk T ++ [41] :: r) = some (T, [41] :: r) := by rw [P_eq]; exact q
    show atomM (rcd (d + 1)) ([40] :: ((tk T ++ [[41]]) ++ r)) = _
    rw [List.append_assoc]
    show close (P d (tk T ++ [41] :: r)) = _
    rw [q2]
    rfl
/-- what ends a term: a comma, a closing parenthesis, the end -/
def Stop (t : Tx) : Prop := (decide (t ≠ [124]) && decide (t ≠ [43]) && decide (t ≠ [45]) && decide (t ≠ [42]) && decide (t ≠ [47])) = true ∧ t ≠ [40] ∧ t ≠ [94]
theorem Stop.fol {t : Tx} (h : Stop t) (l : Nat) (r : List Tx) : Fol l (t :: r) := ⟨t, r, rfl, h.2.1, fun _ => h.2.2, fun l' _ => opAt_none h.1 l'⟩
theorem stop_comma : Stop [44] := ⟨by decide, by decide, by decide⟩
theorem stop_par : Stop [41] := ⟨by decide, by decide, by decide⟩
theorem stop_end : Stop [] := ⟨by decide, by decide, by decide⟩
theorem G.whole {T : Tm} {d : Nat} (g : G T d) (hp : pd T ≤ d) {t : Tx} (ht : Stop t) (r : List Tx) : P d (tk T ++ t :: r) = some (T, t :: r) := by
  rw [P_eq]
  have q := g.g1 (by rw [pdw_ge (lev_le T).1]; exact hp) (t :: r) (ht.fol 1 r)
  rw [tkw_ge (lev_le T).1, binLoop_stop (opAt_none ht.1 1)] at q
  exact q
theorem bin_step {l : Nat} {sub : List Tx → Res Tm} {a b : Tm} {o : Bop} {x r : List Tx} (ho : opAt l [o.sym] = some o) (hs : sub (x ++ r) = some (b, r)) : binLoop l sub a ([o.sym] :: (x ++ r)) = binLoop l sub (.bin o a b) r := by
  rw [binLoop, ho]
  show (match sub (x ++ r) with | none => none | some (b, ts2) => _) = _
  rw [hs]
  show (if h : r.length < ([o.sym] :: (x ++ r)).length then binLoop l sub (.bin o a b) r else none) = _
  rw [dif_pos (by rw [List.length_cons, List.length_append]; omega)]
theorem sym_fol {o : Bop} (r : List Tx) : Fol o.lev ([o.sym] :: r) := by
  refine ⟨_, _, rfl, by cases o <;> decide, fun _ => by cases o <;> decide, fun l' h => ?_⟩
  cases o <;> (unfold opAt; (first | rw [if_neg (by decide)] | skip); repeat (first | rfl | (exfalso; simp only [Bop.lev] at h; omega) | (rw [if_neg (by decide)]) | split))
theorem args_stop {f : List Tx → Res Tm} {w : Tx} {ts : List Tx} : argsM f w [] false ts = some ([], ts) := rfl
theorem close_some (T : Tm) (r : List Tx) : close (some (T, [41] :: r)) = some (T, r) := rfl
theorem fun_go {w : Tx} {fs : List Nat} {d : Nat} {as : List Arg} {T : Tm} {ts r : List Tx} (hw : headL w = true) (h1 : w ≠ [123]) (h2 : w ≠ [40]) (hf : formOf w = some fs) (ha : argsM (P d) w fs true ts = some (as, [41] :: r)) (hm : mk w as = some T) :
    atomM (rcd (d + 1)) (w :: [40] :: ts) = some (T, r) := by
  show (if w = [123] then _ else if w = [40] then _ else if headL w = true then (if ([40] : Tx) = [40] then funM (rcd (d + 1)) w ts else if w.length > 8 then none else some (.name w, [40] :: ts)) else none) = _
  rw [if_neg h1, if_neg h2, if_pos hw, if_pos rfl]
  unfold funM
  rw [hf]
  show close (match argsM (P d) w fs true ts with | none => none | some (as, r3) => match mk w as with | none => none | some x => some (x, r3)) = _
  rw [ha]
  show close (match mk w as with | none => none | some x => some (x, [41] :: r)) = _
  rw [hm]
  rfl
theorem args_num {f : List Tx → Res Tm} {w : Tx} {n : Nat} (h : NuOk n) {first : Bool} {ts r : List Tx} (hc : comma first ts = some (numL n :: r)) : argsM f w [110] first ts = some ([.num n], r) := by
  show (match comma first ts with | none => none | some ts1 => match argM f w 110 ts1 with | none => none | some (a, ts2) => match argsM f w [] false ts2 with | none => none | some (as, ts3) => some (a :: as, ts3)) = _
  rw [hc]
  show (match argM f w 110 (numL n :: r) with | none => none | some (a, ts2) => match argsM f w [] false ts2 with | none => none | some (as, ts3) => some (a :: as, ts3)) = _
  unfold argM
  rw [if_pos rfl, natural_num h]
  rfl
theorem args_sub {f : List Tx → Res Tm} {w : Tx} {a : Tm} {ss : List Nat} {as : List Arg} {first : Bool} {ts ts1 ts2 r : List Tx} (hc : comma first ts = some ts1) (hf : f ts1 = some (a, ts2)) (hr : argsM f w ss false ts2 = some (as, r)) : argsM f w (101 :: ss) first ts = some (.sub a :: as, r) := by
  show (match comma first ts with | none => none | some ts1 => match argM f w 101 ts1 with | none => none | some (a, ts2) => match argsM f w ss false ts2 with | none => none | some (as, ts3) => some (a :: as, ts3)) = _
  rw [hc]
  show (match argM f w 101 ts1 with | none => none | some (a, ts2) => match argsM f w ss false ts2 with | none => none | some (as, ts3) => some (a :: as, ts3)) = _
  unfold argM
  rw [if_neg (by decide), if_pos rfl, hf]
  show (match argsM f w ss false ts2 with | none => none | some (as, ts3) => some (Arg.sub a :: as, ts3)) = _
  rw [hr]
theorem args_poly {f : List Tx → Res Tm} {w : Tx} {p : List Rt} (hp : PoOk p) (hw : p ≠ [] ∨ w ≠ wRoots) {ss : List Nat} {as : List Arg} {ts2 r : List Tx} (hr : argsM f w ss false ts2 = some (as, r)) :
    argsM f w (112 :: ss) true ([91] :: (tkNums p ++ ([93] :: ts2))) = some (.poly p :: as, r) := by
  show (match argM f w 112 ([91] :: (tkNums p ++ ([93] :: ts2))) with | none => none | some (a, ts2) => match argsM f w ss false ts2 with | none => none | some (as, ts3) => some (a :: as, ts3)) = _
  unfold argM
  rw [if_neg (by decide), if_neg (by decide), numbers_all (.inr rfl) ts2 hp.1]
  show (match (if trim p = [] ∧ w = wRoots then none else some (Arg.poly (trim p), ts2)) with | none => none | some (a, ts2) => match argsM f w ss false ts2 with | none => none | some (as, ts3) => some (a :: as, ts3)) = _
  rw [hp.2, if_neg (fun z => hw.elim (fun k => k z.1) fun k => k z.2)]
  show (match argsM f w ss false ts2 with | none => none | some (as, ts3) => some (Arg.poly p :: as, ts3)) = _
  rw [hr]
theorem comma_yes (r : List Tx) : comma false ([44] :: r) = some r := rfl
theorem comma_first (r : List Tx) : comma true r = some r := rfl
theorem g_all : ∀ T : Tm, Ok T → ∀ d, G T d
  | .name s, h => g_of h fun d => ⟨fun _ _ r hr => by
      obtain ⟨t, r', rfl, h1, _, _⟩ := hr
      have hne : ∀ c, isL c = false → s ≠ [c] := fun c hc e => by
        have := h.2.2 c (by rw [e]; exact List.mem_cons_self)
        rw [hc] at this
        cases this
      show (if s = [123] then _ else if s = [40] then _ else if headL s = true then (if t = [40] then funM (rcd d) s r' else if s.length > 8 then none else some (.name s, t :: r')) else none) = _
      rw [if_neg (hne _ (by decide)), if_neg (hne _ (by decide)), if_pos, if_neg h1, if_neg (by have := h.2.1; omega)]
      cases e : s with
      | nil => exact absurd e h.1
      | cons c s' => exact h.2.2 c (by rw [e]; exact List.mem_cons_self), (by intro z; simp [lev] at z), (by intro z; simp [lev] at z), (by intro z; simp [lev] at z), (by intro z; simp [lev] at z), (by intro z; simp [lev] at z)⟩
  | .list qs, h => g_of h fun d => ⟨fun _ _ r hr => by
      have e0 : ∀ z, atomM (rcd d) ([123] :: z) = (match numbers [123] [125] ([123] :: z) with | none => none | some (qs, r') => some (Tm.list qs, r')) := fun z => by
        unfold atomM
        exact if_pos rfl
      show atomM (rcd d) ([123] :: ((tkNums qs ++ [[125]]) ++ r)) = _
      rw [e0, List.append_assoc]
      show (match numbers [123] [125] ([123] :: (tkNums qs ++ ([125] :: r))) with | none => none | some (qs, r') => some (Tm.list qs, r')) = _
      rw [numbers_all (.inl rfl) r h], (by intro z; simp [lev] at z), (by intro z; simp [lev] at z), (by intro z; simp [lev] at z), (by intro z; simp [lev] at z), (by intro z; simp [lev] at z)⟩
  | .roots p, h => g_of h fun d => ⟨fun _ hp r hr => by
      cases d with
      | zero => exact absurd hp (by show ¬ 1 ≤ 0; omega)
      | succ d =>
        show atomM (rcd (d + 1)) (wRoots :: [40] :: ([91] :: ((tkNums p ++ [[93], [41]]) ++ r))) = _
        rw [List.append_assoc]
        exact fun_go (fs := [112]) (by decide) (by decide) (by decide) (by decide) (args_poly h.1 (.inl h.2) (ss := []) (as := []) (ts2 := [41] :: r) rfl) rfl, (by intro z; simp [lev] at z), (by intro z; simp [lev] at z), (by intro z; simp [lev] at z), (by intro z; simp [lev] at z), (by intro z; simp [lev] at z)⟩
  | .unity n, h => g_of h fun d => ⟨fun _ hp r hr => by
      cases d with
      | zero => exact absurd hp (by show ¬ 1 ≤ 0; omega)
      | succ d => exact fun_go (fs := [110]) (by decide) (by decide) (by decide) (by decide) (args_num h (comma_first _)) rfl, (by intro z; simp [lev] at z), (by intro z; simp [lev] at z), (by intro z; simp [lev] at z), (by intro z; simp [lev] at z), (by intro z; simp [lev] at z)⟩
  | .bin o a b, h => by
    have ga := g_all a h.1
    have gb := g_all b h.2
    refine g_of h fun d => ?_
    have pa : pd (.bin o a b) = max (pdw o.lev a) (pdw (o.lev + 1) b) := rfl
    have et : ∀ r, tk (.bin o a b) ++ r = tkw o.lev a ++ ([o.sym] :: (tkw (o.lev + 1) b ++ r)) := fun r => by
      show (tkw o.lev a ++ ([o.sym] :: tkw (o.lev + 1) b)) ++ r = _
      rw [List.append_assoc]
      rfl
    refine ⟨(by intro z; cases o <;> simp [lev, Bop.lev] at z), (by intro z; cases o <;> simp [lev, Bop.lev] at z), (by intro z; cases o <;> simp [lev, Bop.lev] at z), fun z hp r hr => ?_, fun z hp r hr => ?_, fun z hp r hr => ?_⟩
    · have z' : o.lev = 3 := z
      rw [pa, z'] at hp
      simp only [Nat.reduceAdd] at hp
      rw [et, z']
      have q := (ga d).g3 (by omega) ([o.sym] :: (tkw 4 b ++ r)) (by have := sym_fol (o := o) (tkw 4 b ++ r); rw [z'] at this; exact this)
      rw [q]
      exact bin_step (by cases o <;> first | rfl | (exact absurd z' (by decide))) ((gb d).g4 (by omega) r hr.up)
    · have z' : o.lev = 2 := z
      rw [pa, z'] at hp
      simp only [Nat.reduceAdd] at hp
      rw [et, z']
      have q := (ga d).g2 (by omega) ([o.sym] :: (tkw 3 b ++ r)) (by have := sym_fol (o := o) (tkw 3 b ++ r); rw [z'] at this; exact this)
      rw [q]
      refine bin_step (by cases o <;> first | rfl | (exact absurd z' (by decide))) ?_
      have q2 := (gb d).g3 (by omega) r hr.up
      obtain ⟨t, r', rfl, _, _, h3⟩ := hr
      rw [binLoop_stop (h3 3 (by omega))] at q2
      exact q2
    · have z' : o.lev = 1 := z
      rw [pa, z'] at hp
      simp only [Nat.reduceAdd] at hp
      rw [et, z']
      have q := (ga d).g1 (by omega) ([o.sym] :: (tkw 2 b ++ r)) (by have := sym_fol (o := o) (tkw 2 b ++ r); rw [z'] at this; exact this)
      rw [q]
      refine bin_step (by cases o <;> first | rfl | (exact absurd z' (by decide))) ?_
      have q2 := (gb d).g2 (by omega) r hr.up
      obtain ⟨t, r', rfl, _, _, h3⟩ := hr
      rw [binLoop_stop (h3 2 (by omega))] at q2
      exact q2
  | .neg a, h => by
    have ga := g_all a h
    refine g_of h fun d => ⟨(by intro z; simp [lev] at z), (by intro z; simp [lev] at z), fun _ hp r hr => ?_, (by intro z; simp [lev] at z), (by intro z; simp [lev] at z), (by intro z; simp [lev] at z)⟩
    exact signed_neg ((ga d).g4 hp r hr)
  | .pow a n, h => by
    have ga := g_all a h.1
    refine g_of h fun d => ⟨(by intro z; simp [lev] at z), fun _ hp r hr => ?_, (by intro z; simp [lev] at z), (by intro z; simp [lev] at z), (by intro z; simp [lev] at z), (by intro z; simp [lev] at z)⟩
    show powM (rcd d) ((tkw 5 a ++ [[94], numL n]) ++ r) = _
    rw [List.append_assoc]
    rw [(ga d).g5 hp ([[94], numL n] ++ r) ⟨[94], _, rfl, by decide, (by intro z; simp [lev] at z), fun l' _ => opAt_none (by decide) l'⟩]
    show (if ([94] : Tx) = [94] then (match tokNat (numL n) with | none => none | some n => powLoop (.pow a n) r) else _) = _
    rw [if_pos rfl, tokNat_num h.2]
  | .map p a, h => by
    have ga := g_all a h.2
    refine g_of h fun d => ⟨fun _ hp r hr => ?_, (by intro z; simp [lev] at z), (by intro z; simp [lev] at z), (by intro z; simp [lev] at z), (by intro z; simp [lev] at z), (by intro z; simp [lev] at z)⟩
    cases d with
    | zero => exact absurd hp (by show ¬ pd a + 1 ≤ 0; omega)
    | succ d =>
      have hp' : pd a ≤ d := by have z : pd a + 1 ≤ d + 1 := hp; omega
      show atomM (rcd (d + 1)) (wMap :: [40] :: ([91] :: ((tkNums p ++ ([93] :: [44] :: (tk a ++ [[41]]))) ++ r))) = _
      rw [List.append_assoc]
      show atomM (rcd (d + 1)) (wMap :: [40] :: ([91] :: (tkNums p ++ ([93] :: [44] :: ((tk a ++ [[41]]) ++ r))))) = _
      rw [List.append_assoc]
      exact fun_go (fs := [112, 101]) (by decide) (by decide) (by decide) (by decide) (args_poly h.1 (.inr (by decide)) (args_sub (comma_yes _) ((ga d).whole hp' stop_par r) rfl)) rfl
  | .sums a n, h => by
    have ga := g_all a h.1
    refine g_of h fun d => ⟨fun _ hp r hr => ?_, (by intro z; simp [lev] at z), (by intro z; simp [lev] at z), (by intro z; simp [lev] at z), (by intro z; simp [lev] at z), (by intro z; simp [lev] at z)⟩
    cases d with
    | zero => exact absurd hp (by show ¬ pd a + 1 ≤ 0; omega)
    | succ d =>
      have hp' : pd a ≤ d := by have z : pd a + 1 ≤ d + 1 := hp; omega
      show atomM (rcd (d + 1)) (wSums :: [40] :: ((tk a ++ [[44], numL n, [41]]) ++ r)) = _
      rw [List.append_assoc]
      exact fun_go (fs := [101, 110]) (by decide) (by decide) (by decide) (by decide) (args_sub (comma_first _) ((ga d).whole hp' stop_comma _) (args_num h.2 (comma_yes _))) rfl
  | .prods a n, h => by
    have ga := g_all a h.1
    refine g_of h fun d => ⟨fun _ hp r hr => ?_, (by intro z; simp [lev] at z), (by intro z; simp [lev] at z), (by intro z; simp [lev] at z), (by intro z; simp [lev] at z), (by intro z; simp [lev] at z)⟩
    cases d with
    | zero => exact absurd hp (by show ¬ pd a + 1 ≤ 0; omega)
    | succ d =>
      have hp' : pd a ≤ d := by have z : pd a + 1 ≤ d + 1 := hp; omega
      show atomM (rcd (d + 1)) (wProds :: [40] :: ((tk a ++ [[44], numL n, [41]]) ++ r)) = _
      rw [List.append_assoc]
      exact fun_go (fs := [101, 110]) (by decide) (by decide) (by decide) (by decide) (args_sub (comma_first _) ((ga d).whole hp' stop_comma _) (args_num h.2 (comma_yes _))) rfl
  | .dist a, h => by
    have ga := g_all a h
    refine g_of h fun d => ⟨fun _ hp r hr => ?_, (by intro z; simp [lev] at z), (by intro z; simp [lev] at z), (by intro z; simp [lev] at z), (by intro z; simp [lev] at z), (by intro z; simp [lev] at z)⟩
    cases d with
    | zero => exact absurd hp (by show ¬ pd a + 1 ≤ 0; omega)
    | succ d =>
      have hp' : pd a ≤ d := by have z : pd a + 1 ≤ d + 1 := hp; omega
      show atomM (rcd (d + 1)) (wDist :: [40] :: ((tk a ++ [[41]]) ++ r)) = _
      rw [List.append_assoc]
      exact fun_go (fs := [101]) (by decide) (by decide) (by decide) (by decide) (args_sub (comma_first _) ((ga d).whole hp' stop_par _) rfl) rfl
  | .comm a b, h => by
    have ga := g_all a h.1
    have gb := g_all b h.2
    refine g_of h fun d => ⟨fun _ hp r hr => ?_, (by intro z; simp [lev] at z), (by intro z; simp [lev] at z), (by intro z; simp [lev] at z), (by intro z; simp [lev] at z), (by intro z; simp [lev] at z)⟩
    cases d with
    | zero => exact absurd hp (by show ¬ max (pd a) (pd b) + 1 ≤ 0; omega)
    | succ d =>
      have hp' : max (pd a) (pd b) + 1 ≤ d + 1 := hp
      show atomM (rcd (d + 1)) (wComm :: [40] :: ((tk a ++ ([44] :: (tk b ++ [[41]]))) ++ r)) = _
      rw [List.append_assoc]
      show atomM (rcd (d + 1)) (wComm :: [40] :: (tk a ++ ([44] :: ((tk b ++ [[41]]) ++ r)))) = _
      rw [List.append_assoc]
      exact fun_go (fs := [101, 101]) (by decide) (by decide) (by decide) (by decide) (args_sub (comma_first _) ((ga d).whole (by omega) stop_comma _) (args_sub (comma_yes _) ((gb d).whole (by omega) stop_par _) rfl)) rfl
  | .wout a b, h => by
    have ga := g_all a h.1
    have gb := g_all b h.2
    refine g_of h fun d => ⟨fun _ hp r hr => ?_, (by intro z; simp [lev] at z), (by intro z; simp [lev] at z), (by intro z; simp [lev] at z), (by intro z; simp [lev] at z), (by intro z; simp [lev] at z)⟩
    cases d with
    | zero => exact absurd hp (by show ¬ max (pd a) (pd b) + 1 ≤ 0; omega)
    | succ d =>
      have hp' : max (pd a) (pd b) + 1 ≤ d + 1 := hp
      show atomM (rcd (d + 1)) (wWout :: [40] :: ((tk a ++ ([44] :: (tk b ++ [[41]]))) ++ r)) = _
      rw [List.append_assoc]
      show atomM (rcd (d + 1)) (wWout :: [40] :: (tk a ++ ([44] :: ((tk b ++ [[41]]) ++ r)))) = _
      rw [List.append_assoc]
      exact fun_go (fs := [101, 101]) (by decide) (by decide) (by decide) (by decide) (args_sub (comma_first _) ((ga d).whole (by omega) stop_comma _) (args_sub (comma_yes _) ((gb d).whole (by omega) stop_par _) rfl)) rfl
/-- THE ROUND TRIP -/
theorem parse_fmt {T : Tm} (h : Ok T) (hl : (fmt T).length ≤ 400) (hp : pd T ≤ 20) (hn : nodes T ≤ 60) : parseT (fmt T) = some T := by
  unfold parseT
  rw [if_neg (by omega), scan_fmt h, (g_all T h 20).whole hp stop_end []]
  show (if ([] : Tx) = [] then (if nodes T > 60 then none else some T) else none) = _
  rw [if_pos rfl, if_neg (by omega)]
end Rb
set_option maxRecDepth 100000
set_option maxHeartbeats 4000000
namespace Rb
open PySem
open TL (numL)
/-! ### what a parse eats -/
def Eats (ts r : List Tx) : Prop := ∃ pre, ts = pre ++ r ∧ ∀ t ∈ pre, t ≠ []
theorem Eats.refl (ts : List Tx) : Eats ts ts := ⟨[], rfl, fun _ h => by cases h⟩
theorem Eats.trans {a b c : List Tx} (h : Eats a b) (k : Eats b c) : Eats a c := by
  obtain ⟨p, rfl, hp⟩ := h
  obtain ⟨q, rfl, hq⟩ := k
  exact ⟨p ++ q, (List.append_assoc ..).symm, fun t ht => (List.mem_append.mp ht).elim (hp t) (hq t)⟩
theorem Eats.one {t : Tx} {r : List Tx} (h : t ≠ []) : Eats (t :: r) r := ⟨[t], rfl, fun u hu => by rw [List.mem_singleton.mp hu]; exact h⟩
theorem Eats.len {a b : List Tx} (h : Eats a b) : b.length ≤ a.length := by
  obtain ⟨p, rfl, _⟩ := h
  rw [List.length_append]
  omega
theorem Eats.snt {a b : List Tx} (h : Eats a b) (s : ∃ l, a = l ++ [[]]) : ∃ l, b = l ++ [[]] := by
  obtain ⟨p, rfl, hp⟩ := h
  obtain ⟨l, e⟩ := s
  by_cases hb : b = []
  · rw [hb, List.append_nil] at e
    exact absurd rfl (hp [] (by rw [e]; simp))
  · have eb := List.dropLast_concat_getLast hb
    rw [← eb, ← List.append_assoc] at e
    have := (List.append_inj' e rfl).2
    exact ⟨b.dropLast, by rw [← this]; exact eb.symm⟩
/-- a token that begins with a digit has digits alone, one that begins with a letter letters alone -/
def Wf (t : Tx) : Prop := ∀ c r, t = c :: r → (isD c = true → ∀ d ∈ t, isD d = true) ∧ (isL c = true → ∀ d ∈ t, isL d = true)
def Wfs (ts : List Tx) : Prop := ∀ t ∈ ts, Wf t
theorem Eats.wfs {a b : List Tx} (h : Eats a b) (w : Wfs a) : Wfs b := fun t ht => by
  obtain ⟨p, rfl, _⟩ := h
  exact w t (List.mem_append_right _ ht)
theorem natural_inv {ts r : List Tx} {n : Nat} (h : natural ts = some (n, r)) : ∃ t, ts = t :: r ∧ tokNat t = some n ∧ t ≠ [] := by
  cases ts with
  | nil => cases h
  | cons t ts =>
    have h' : (match tokNat t with | none => none | some n => some (n, ts)) = some (n, r) := h
    cases e : tokNat t with
    | none => rw [e] at h'; cases h'
    | some m =>
      rw [e] at h'
      cases h'
      exact ⟨t, rfl, e, fun z => by rw [z] at e; cases e⟩
theorem minus1_inv (ts : List Tx) : (ts = [45] :: (minus1 ts).2 ∧ (minus1 ts).1 = true) ∨ (ts = (minus1 ts).2 ∧ (minus1 ts).1 = false) := by
  cases ts with
  | nil => exact .inr ⟨rfl, rfl⟩
  | cons t r =>
    by_cases h : t = [45]
    · subst h
      rw [minus1_neg]
      exact .inl ⟨rfl, rfl⟩
    · have e : minus1 (t :: r) = (false, t :: r) := if_neg h
      rw [e]
      exact .inr ⟨rfl, rfl⟩
theorem under_inv {s : Int} {ts r : List Tx} {q : Rt} (h : under s ts = some (q, r)) : (ts = r ∧ q = low s 1) ∨ ∃ t n, ts = [47] :: t :: r ∧ tokNat t = some n ∧ t ≠ [] ∧ t ≠ [48] ∧ q = low s (n : Int) := by
  cases ts with
  | nil => cases h
  | cons t ts =>
    unfold under at h
    dsimp only at h
    by_cases ht : t = [47]
    · subst ht
      rw [if_pos rfl] at h
      cases ts with
      | nil => cases h
      | cons t' ts =>
        have h' : (if t' = [48] then none else match natural (t' :: ts) with | none => none | some (d, ts3) => some (low s d, ts3)) = some (q, r) := h
        by_cases h0 : t' = [48]
        · rw [if_pos h0] at h'
          cases h'
        · rw [if_neg h0] at h'
          cases e : natural (t' :: ts) with
          | none => rw [e] at h'; cases h'
          | some x =>
            obtain ⟨n, r2⟩ := x
            rw [e] at h'
            cases h'
            obtain ⟨u, e1, e2, e3⟩ := natural_inv e
            cases e1
            exact .inr ⟨t', n, rfl, e2, e3, h0, rfl⟩
    · rw [if_neg ht] at h
      cases h
      exact .inl ⟨rfl, rfl⟩
theorem rational_inv {ts r : List Tx} {q : Rt} (h : rational ts = some (q, r)) : ∃ (b : Bool) (t : Tx) (n : Nat) (ts2 : List Tx), ts = (if b = true then [[45]] else []) ++ t :: ts2 ∧ tokNat t = some n ∧ t ≠ [] ∧ under (sgn b n) ts2 = some (q, r) := by
  unfold rational at h
  cases e : natural (minus1 ts).2 with
  | none => rw [e] at h; cases h
  | some x =>
    obtain ⟨n, ts2⟩ := x
    rw [e] at h
    obtain ⟨t, e1, e2, e3⟩ := natural_inv e
    refine ⟨(minus1 ts).1, t, n, ts2, ?_, e2, e3, h⟩
    rw [← e1]
    rcases minus1_inv ts with ⟨a, b⟩ | ⟨a, b⟩
    · rw [b, if_pos rfl]
      exact a
    · rw [b, if_neg Bool.false_ne_true]
      exact a
theorem under_eats {s : Int} {ts r : List Tx} {q : Rt} (h : under s ts = some (q, r)) : Eats ts r := by
  rcases under_inv h with ⟨rfl, _⟩ | ⟨t, n, rfl, _, e, _, _⟩
  · exact .refl _
  · exact (Eats.one (by decide)).trans (.one e)
theorem rational_eats {ts r : List Tx} {q : Rt} (h : rational ts = some (q, r)) : Eats ts r ∧ r.length < ts.length := by
  obtain ⟨b, t, n, ts2, rfl, _, ht, hu⟩ := rational_inv h
  have e := (Eats.one (r := ts2) ht).trans (under_eats hu)
  have el := (under_eats hu).len
  cases b with
  | false => exact ⟨e, by show r.length < (t :: ts2).length; rw [List.length_cons]; omega⟩
  | true => exact ⟨(Eats.one (by decide)).trans e, by show r.length < ([45] :: t :: ts2).length; rw [List.length_cons, List.length_cons]; omega⟩
theorem comma_inv {b : Bool} {ts r : List Tx} (h : comma b ts = some r) : (b = true ∧ ts = r) ∨ (b = false ∧ ts = [44] :: r) := by
  unfold comma at h
  cases b with
  | true => rw [if_pos rfl] at h; cases h; exact .inl ⟨rfl, rfl⟩
  | false =>
    rw [if_neg Bool.false_ne_true] at h
    cases ts with
    | nil => cases h
    | cons t ts =>
      have h' : (if t = [44] then some ts else none) = some r := h
      by_cases ht : t = [44]
      · rw [if_pos ht] at h'
        cases h'
        exact .inr ⟨rfl, by rw [ht]⟩
      · rw [if_neg ht] at h'
        cases h'
theorem comma_eats {b : Bool} {ts r : List Tx} (h : comma b ts = some r) : Eats ts r := by
  rcases comma_inv h with ⟨_, rfl⟩ | ⟨_, rfl⟩
  · exact .refl _
  · exact .one (by decide)
theorem nums_inv {cl : Tx} {acc : List Rt} {t : Tx} {ts r : List Tx} {qs : List Rt} (h : numsLoop cl acc (t :: ts) = some (qs, r)) : (t = cl ∧ qs = acc ∧ r = ts) ∨
    ∃ ts1 q ts2, t ≠ cl ∧ comma acc.isEmpty (t :: ts) = some ts1 ∧ rational ts1 = some (q, ts2) ∧ ts2.length < (t :: ts).length ∧ numsLoop cl (acc ++ [q]) ts2 = some (qs, r) := by
  rw [numsLoop] at h
  by_cases ht : t = cl
  · rw [if_pos ht] at h
    cases h
    exact .inl ⟨ht, rfl, rfl⟩
  · rw [if_neg ht] at h
    cases e : comma acc.isEmpty (t :: ts) with
    | none => rw [e] at h; cases h
    | some ts1 =>
      rw [e] at h
      have h' : (match rational ts1 with | none => none | some (q, ts2) => if h : ts2.length < (t :: ts).length then numsLoop cl (acc ++ [q]) ts2 else none) = some (qs, r) := h
      cases e2 : rational ts1 with
      | none => rw [e2] at h'; cases h'
      | some x =>
        obtain ⟨q, ts2⟩ := x
        rw [e2] at h'
        have h2 : (if h : ts2.length < (t :: ts).length then numsLoop cl (acc ++ [q]) ts2 else none) = some (qs, r) := h'
        by_cases hl : ts2.length < (t :: ts).length
        · rw [dif_pos hl] at h2
          exact .inr ⟨ts1, q, ts2, ht, rfl, e2, hl, h2⟩
        · rw [dif_neg hl] at h2
          cases h2
theorem nums_eats {cl : Tx} (hc : cl ≠ []) : ∀ (m : Nat) (acc : List Rt) (ts r : List Tx) (qs : List Rt), ts.length ≤ m → numsLoop cl acc ts = some (qs, r) → Eats ts r
  | _, _, [], _, _, _, h => by rw [numsLoop] at h; cases h
  | 0, _, _ :: _, _, _, hm, _ => by simp at hm
  | m + 1, acc, t :: ts, r, qs, hm, h => by
    rcases nums_inv h with ⟨rfl, rfl, rfl⟩ | ⟨ts1, q, ts2, _, h1, h2, h3, h4⟩
    · exact .one hc
    · have ih := nums_eats hc m (acc ++ [q]) ts2 r qs (by rw [List.length_cons] at hm h3; omega) h4
      exact (comma_eats h1).trans ((rational_eats h2).1.trans ih)
theorem numbers_inv {op cl : Tx} {ts r : List Tx} {qs : List Rt} (h : numbers op cl ts = some (qs, r)) : ∃ ts1, ts = op :: ts1 ∧ numsLoop cl [] ts1 = some (qs, r) := by
  cases ts with
  | nil => cases h
  | cons t ts =>
    have h' : (if t = op then numsLoop cl [] ts else none) = some (qs, r) := h
    by_cases ht : t = op
    · rw [if_pos ht] at h'
      exact ⟨ts, by rw [ht], h'⟩
    · rw [if_neg ht] at h'
      cases h'
theorem numbers_eats {op cl : Tx} (ho : op ≠ []) (hc : cl ≠ []) {ts r : List Tx} {qs : List Rt} (h : numbers op cl ts = some (qs, r)) : Eats ts r := by
  obtain ⟨ts1, rfl, h1⟩ := numbers_inv h
  exact (Eats.one ho).trans (nums_eats hc _ _ _ _ _ (Nat.le_refl _) h1)
def EatsF (f : List Tx → Res Tm) : Prop := ∀ ts T r, f ts = some (T, r) → Eats ts r
theorem pow_inv {here T : Tm} {t : Tx} {ts r : List Tx} (h : powLoop here (t :: ts) = some (T, r)) : (t ≠ [94] ∧ T = here ∧ r = t :: ts) ∨ ∃ t2 n ts2, t = [94] ∧ ts = t2 :: ts2 ∧ tokNat t2 = some n ∧ powLoop (.pow here n) ts2 = some (T, r) := by
  by_cases ht : t = [94]
  · subst ht
    cases ts with
    | nil =>
      have h' : (if ([94] : Tx) = [94] then none else some (here, [[94]])) = some (T, r) := h
      rw [if_pos rfl] at h'
      cases h'
    | cons t2 ts =>
      have h' : (if ([94] : Tx) = [94] then (match tokNat t2 with | none => none | some n => powLoop (.pow here n) ts) else some (here, [94] :: t2 :: ts)) = some (T, r) := h
      rw [if_pos rfl] at h'
      cases e : tokNat t2 with
      | none => rw [e] at h'; cases h'
      | some n =>
        rw [e] at h'
        exact .inr ⟨t2, n, ts, rfl, rfl, e, h'⟩
  · rw [powLoop_stop ht] at h
    cases h
    exact .inl ⟨ht, rfl, rfl⟩
theorem tokNat_ne {t : Tx} {n : Nat} (h : tokNat t = some n) : t ≠ [] := fun e => by rw [e] at h; cases h
theorem pow_eats : ∀ (m : Nat) (here T : Tm) (ts r : List Tx), ts.length ≤ m → powLoop here ts = some (T, r) → Eats ts r
  | _, _, _, [], _, _, h => by cases h
  | 0, _, _, _ :: _, _, hm, _ => by simp at hm
  | m + 1, here, T, t :: ts, r, hm, h => by
    rcases pow_inv h with ⟨_, rfl, rfl⟩ | ⟨t2, n, ts2, rfl, rfl, e, h2⟩
    · exact .refl _
    · have ih := pow_eats m _ _ _ _ (by rw [List.length_cons, List.length_cons] at hm; omega) h2
      exact (Eats.one (by decide)).trans ((Eats.one (tokNat_ne e)).trans ih)
theorem minuses_eats : ∀ ts : List Tx, Eats ts (minuses ts).2
  | [] => .refl _
  | t :: r => by
    by_cases h : t = [45]
    · subst h
      rw [minuses_yes]
      exact (Eats.one (by decide)).trans (minuses_eats r)
    · rw [minuses_not h]
      exact .refl _
theorem bin_inv {l : Nat} {sub : List Tx → Res Tm} {here T : Tm} {t : Tx} {ts r : List Tx} (h : binLoop l sub here (t :: ts) = some (T, r)) : (opAt l t = none ∧ T = here ∧ r = t :: ts) ∨
    ∃ o b ts2, opAt l t = some o ∧ sub ts = some (b, ts2) ∧ ts2.length < (t :: ts).length ∧ binLoop l sub (.bin o here b) ts2 = some (T, r) := by
  rw [binLoop] at h
  cases e : opAt l t with
  | none =>
    rw [e] at h
    cases h
    exact .inl ⟨rfl, rfl, rfl⟩
  | some o =>
    rw [e] at h
    have h' : (match sub ts with | none => none | some (b, ts2) => if h : ts2.length < (t :: ts).length then binLoop l sub (.bin o here b) ts2 else none) = some (T, r) := h
    cases e2 : sub ts with
    | none => rw [e2] at h'; cases h'
    | some x =>
      obtain ⟨b, ts2⟩ := x
      rw [e2] at h'
      have h2 : (if h : ts2.length < (t :: ts).length then binLoop l sub (.bin o here b) ts2 else none) = some (T, r) := h'
      by_cases hl : ts2.length < (t :: ts).length
      · rw [dif_pos hl] at h2
        exact .inr ⟨o, b, ts2, rfl, rfl, hl, h2⟩
      · rw [dif_neg hl] at h2
        cases h2
theorem opAt_inv {l : Nat} {t : Tx} {o : Bop} (h : opAt l t = some o) : t = [o.sym] ∧ o.lev = l := by
  unfold opAt at h
  repeat' (split at h)
  all_goals first | (cases h; done) | (cases h; exact ⟨by assumption, by symm; assumption⟩)
theorem bin_eats {l : Nat} {sub : List Tx → Res Tm} (hs : EatsF sub) : ∀ (m : Nat) (here T : Tm) (ts r : List Tx), ts.length ≤ m → binLoop l sub here ts = some (T, r) → Eats ts r
  | _, _, _, [], _, _, h => by rw [binLoop] at h; cases h
  | 0, _, _, _ :: _, _, hm, _ => by simp at hm
  | m + 1, here, T, t :: ts, r, hm, h => by
    rcases bin_inv h with ⟨_, rfl, rfl⟩ | ⟨o, b, ts2, ho, h1, h2, h3⟩
    · exact .refl _
    · have ih := bin_eats hs m _ _ _ _ (by rw [List.length_cons] at hm h2; omega) h3
      have ht : t ≠ [] := by rw [(opAt_inv ho).1]; exact List.cons_ne_nil _ _
      exact (Eats.one ht).trans ((hs _ _ _ h1).trans ih)
theorem close_inv {x : Res Tm} {T : Tm} {r : List Tx} (h : close x = some (T, r)) : x = some (T, [41] :: r) := by
  cases x with
  | none => cases h
  | some y =>
    obtain ⟨t, r2⟩ := y
    cases r2 with
    | nil => cases h
    | cons t' r' =>
      have h' : (if t' = [41] then some (t, r') else none) = some (T, r) := h
      by_cases e : t' = [41]
      · rw [if_pos e] at h'
        cases h'
        rw [e]
      · rw [if_neg e] at h'
        cases h'
theorem argM_inv {f : List Tx → Res Tm} {w : Tx} {s : Nat} {ts r : List Tx} {a : Arg} (h : argM f w s ts = some (a, r)) : (s = 110 ∧ ∃ n, natural ts = some (n, r) ∧ a = .num n) ∨ (s = 101 ∧ ∃ t, f ts = some (t, r) ∧ a = .sub t) ∨
    (s ≠ 110 ∧ s ≠ 101 ∧ ∃ p, numbers [91] [93] ts = some (p, r) ∧ (trim p = [] → w ≠ wRoots) ∧ a = .poly (trim p)) := by
  unfold argM at h
  by_cases h1 : s = 110
  · rw [if_pos h1] at h
    cases e : natural ts with
    | none => rw [e] at h; cases h
    | some x =>
      obtain ⟨n, r2⟩ := x
      rw [e] at h
      cases h
      exact .inl ⟨h1, n, rfl, rfl⟩
  · rw [if_neg h1] at h
    by_cases h2 : s = 101
    · rw [if_pos h2] at h
      cases e : f ts with
      | none => rw [e] at h; cases h
      | some x =>
        obtain ⟨n, r2⟩ := x
        rw [e] at h
        cases h
        exact .inr (.inl ⟨h2, n, rfl, rfl⟩)
    · rw [if_neg h2] at h
      cases e : numbers [91] [93] ts with
      | none => rw [e] at h; cases h
      | some x =>
        obtain ⟨p, r2⟩ := x
        rw [e] at h
        have h' : (if trim p = [] ∧ w = wRoots then none else some (Arg.poly (trim p), r2)) = some (a, r) := h
        by_cases h3 : trim p = [] ∧ w = wRoots
        · rw [if_pos h3] at h'
          cases h'
        · rw [if_neg h3] at h'
          cases h'
          exact .inr (.inr ⟨h1, h2, p, rfl, fun z k => h3 ⟨z, k⟩, rfl⟩)
theorem natural_eats {ts r : List Tx} {n : Nat} (h : natural ts = some (n, r)) : Eats ts r := by
  obtain ⟨t, rfl, _, e⟩ := natural_inv h
  exact .one e
theorem argM_eats {f : List Tx → Res Tm} (hf : EatsF f) {w : Tx} {s : Nat} {ts r : List Tx} {a : Arg} (h : argM f w s ts = some (a, r)) : Eats ts r := by
  rcases argM_inv h with ⟨_, n, e, _⟩ | ⟨_, t, e, _⟩ | ⟨_, _, p, e, _, _⟩
  · exact natural_eats e
  · exact hf _ _ _ e
  · exact numbers_eats (by decide) (by decide) e
theorem argsM_inv {f : List Tx → Res Tm} {w : Tx} {s : Nat} {ss : List Nat} {b : Bool} {ts r : List Tx} {as : List Arg} (h : argsM f w (s :: ss) b ts = some (as, r)) :
    ∃ ts1 a ts2 as', comma b ts = some ts1 ∧ argM f w s ts1 = some (a, ts2) ∧ argsM f w ss false ts2 = some (as', r) ∧ as = a :: as' := by
  have h0 : (match comma b ts with | none => none | some ts1 => match argM f w s ts1 with | none => none | some (a, ts2) => match argsM f w ss false ts2 with | none => none | some (as, ts3) => some (a :: as, ts3)) = some (as, r) := h
  cases e : comma b ts with
  | none => rw [e] at h0; cases h0
  | some ts1 =>
    rw [e] at h0
    have h1 : (match argM f w s ts1 with | none => none | some (a, ts2) => match argsM f w ss false ts2 with | none => none | some (as, ts3) => some (a :: as, ts3)) = some (as, r) := h0
    cases e1 : argM f w s ts1 with
    | none => rw [e1] at h1; cases h1
    | some x =>
      obtain ⟨a, ts2⟩ := x
      rw [e1] at h1
      have h2 : (match argsM f w ss false ts2 with | none => none | some (as, ts3) => some (a :: as, ts3)) = some (as, r) := h1
      cases e2 : argsM f w ss false ts2 with
      | none => rw [e2] at h2; cases h2
      | some y =>
        obtain ⟨as', ts3⟩ := y
        rw [e2] at h2
        cases h2
        exact ⟨ts1, a, ts2, as', rfl, e1, e2, rfl⟩
theorem argsM_eats {f : List Tx → Res Tm} (hf : EatsF f) {w : Tx} : ∀ {ss : List Nat} {b : Bool} {ts r : List Tx} {as : List Arg}, argsM f w ss b ts = some (as, r) → Eats ts r
  | [], b, ts, r, as, h => by
    cases h
    exact .refl _
  | s :: ss, b, ts, r, as, h => by
    obtain ⟨ts1, a, ts2, as', e1, e2, e3, _⟩ := argsM_inv h
    exact (comma_eats e1).trans ((argM_eats hf e2).trans (argsM_eats hf e3))
theorem fun_inv {rec : Option (List Tx → Res Tm)} {t : Tx} {ts r : List Tx} {T : Tm} (h : funM rec t ts = some (T, r)) : ∃ fs f as, formOf t = some fs ∧ rec = some f ∧ argsM f t fs true ts = some (as, [41] :: r) ∧ mk t as = some T := by
  unfold funM at h
  cases e : formOf t with
  | none => rw [e] at h; cases h
  | some fs =>
    rw [e] at h
    cases rec with
    | none => cases h
    | some f =>
      have h1 := close_inv h
      cases e1 : argsM f t fs true ts with
      | none => rw [e1] at h1; cases h1
      | some x =>
        obtain ⟨as, r3⟩ := x
        rw [e1] at h1
        have h2 : (match mk t as with | none => none | some x => some (x, r3)) = some (T, [41] :: r) := h1
        cases e2 : mk t as with
        | none => rw [e2] at h2; cases h2
        | some T' =>
          rw [e2] at h2
          cases h2
          exact ⟨fs, f, as, rfl, rfl, e1, e2⟩
theorem paren_inv {rec : Option (List Tx → Res Tm)} {ts r : List Tx} {T : Tm} (h : parenM rec ts = some (T, r)) : ∃ f, rec = some f ∧ f ts = some (T, [41] :: r) := by
  cases rec with
  | none => cases h
  | some f => exact ⟨f, rfl, close_inv h⟩
theorem atom_inv {rec : Option (List Tx → Res Tm)} {ts r : List Tx} {T : Tm} (h : atomM rec ts = some (T, r)) : (∃ qs, numbers [123] [125] ts = some (qs, r) ∧ T = .list qs) ∨ (∃ ts1, ts = [40] :: ts1 ∧ parenM rec ts1 = some (T, r)) ∨
    (∃ t ts2, ts = t :: [40] :: ts2 ∧ headL t = true ∧ funM rec t ts2 = some (T, r)) ∨ ∃ t, ts = t :: r ∧ headL t = true ∧ t.length ≤ 8 ∧ T = .name t := by
  cases ts with
  | nil => cases h
  | cons t ts =>
    unfold atomM at h
    dsimp only at h
    by_cases h1 : t = [123]
    · rw [if_pos h1] at h
      cases e : numbers [123] [125] (t :: ts) with
      | none => rw [e] at h; cases h
      | some x =>
        obtain ⟨qs, r'⟩ := x
        rw [e] at h
        cases h
        exact .inl ⟨qs, rfl, rfl⟩
    · rw [if_neg h1] at h
      by_cases h2 : t = [40]
      · rw [if_pos h2] at h
        exact .inr (.inl ⟨ts, by rw [h2], h⟩)
      · rw [if_neg h2] at h
        by_cases h3 : headL t = true
        · rw [if_pos h3] at h
          cases ts with
          | nil => cases h
          | cons t2 ts =>
            have h' : (if t2 = [40] then funM rec t ts else if t.length > 8 then none else some (.name t, t2 :: ts)) = some (T, r) := h
            by_cases h4 : t2 = [40]
            · rw [if_pos h4] at h'
              exact .inr (.inr (.inl ⟨t, ts, by rw [h4], h3, h'⟩))
            · rw [if_neg h4] at h'
              by_cases h5 : t.length > 8
              · rw [if_pos h5] at h'
                cases h'
              · rw [if_neg h5] at h'
                cases h'
                exact .inr (.inr (.inr ⟨t, rfl, h3, by omega, rfl⟩))
        · rw [if_neg h3] at h
          cases h
theorem headL_ne {t : Tx} (h : headL t = true) : t ≠ [] := fun e => by rw [e] at h; cases h
theorem atom_eats {rec : Option (List Tx → Res Tm)} (hr : ∀ f, rec = some f → EatsF f) : EatsF (atomM rec) := fun ts T r h => by
  rcases atom_inv h with ⟨qs, e, _⟩ | ⟨ts1, rfl, e⟩ | ⟨t, ts2, rfl, e, e2⟩ | ⟨t, rfl, e, _⟩
  · exact numbers_eats (by decide) (by decide) e
  · obtain ⟨f, e1, e2⟩ := paren_inv e
    exact (Eats.one (by decide)).trans ((hr f e1 _ _ _ e2).trans (.one (by decide)))
  · obtain ⟨fs, f, as, _, e1, e3, _⟩ := fun_inv e2
    exact (Eats.one (headL_ne e)).trans ((Eats.one (by decide)).trans ((argsM_eats (hr f e1) e3).trans (.one (by decide))))
  · exact .one (headL_ne e)
theorem powM_inv {rec : Option (List Tx → Res Tm)} {ts r : List Tx} {T : Tm} (h : powM rec ts = some (T, r)) : ∃ a r1, atomM rec ts = some (a, r1) ∧ powLoop a r1 = some (T, r) := by
  unfold powM at h
  cases e : atomM rec ts with
  | none => rw [e] at h; cases h
  | some x =>
    obtain ⟨a, r1⟩ := x
    rw [e] at h
    exact ⟨a, r1, rfl, h⟩
theorem signed_inv {rec : Option (List Tx → Res Tm)} {ts r : List Tx} {T : Tm} (h : signed rec ts = some (T, r)) : ∃ p, powM rec (minuses ts).2 = some (p, r) ∧ T = negs (minuses ts).1 p := by
  unfold signed at h
  cases e : powM rec (minuses ts).2 with
  | none => rw [e] at h; cases h
  | some x =>
    obtain ⟨p, r1⟩ := x
    rw [e] at h
    cases h
    exact ⟨p, rfl, rfl⟩
theorem lv_inv {rec : Option (List Tx → Res Tm)} {k : Nat} {ts r : List Tx} {T : Tm} (h : lv rec (k + 1) ts = some (T, r)) : ∃ a r1, lv rec k ts = some (a, r1) ∧ binLoop (3 - k) (lv rec k) a r1 = some (T, r) := by
  have h0 : (match lv rec k ts with | none => none | some (a, r) => binLoop (3 - k) (lv rec k) a r) = some (T, r) := h
  cases e : lv rec k ts with
  | none => rw [e] at h0; cases h0
  | some x =>
    obtain ⟨a, r1⟩ := x
    rw [e] at h0
    exact ⟨a, r1, rfl, h0⟩
theorem lv_eats {rec : Option (List Tx → Res Tm)} (hr : ∀ f, rec = some f → EatsF f) : ∀ k, EatsF (lv rec k)
  | 0 => fun ts T r h => by
    obtain ⟨p, e, _⟩ := signed_inv h
    obtain ⟨a, r1, e1, e2⟩ := powM_inv e
    exact (minuses_eats ts).trans ((atom_eats hr _ _ _ e1).trans (pow_eats _ _ _ _ _ (Nat.le_refl _) e2))
  | k + 1 => fun ts T r h => by
    obtain ⟨a, r1, e1, e2⟩ := lv_inv h
    have ih := lv_eats hr k
    exact (ih _ _ _ e1).trans (bin_eats ih _ _ _ _ _ (Nat.le_refl _) e2)
theorem P_eats : ∀ d, EatsF (P d)
  | 0 => fun ts T r h => lv_eats (rec := none) (fun f e => by cases e) 3 ts T r h
  | d + 1 => fun ts T r h => lv_eats (rec := some (P d)) (fun f e => by cases e; exact P_eats d) 3 ts T r h
theorem rcd_eats (d : Nat) : ∀ f, rcd d = some f → EatsF f := fun f e => by
  cases d with
  | zero => cases e
  | succ d => cases e; exact P_eats d
end Rb
set_option maxRecDepth 100000
set_option maxHeartbeats 4000000
namespace Rb
open PySem
open TL (numL)
/-! ### what a parse yields -/
def wt : List Tx → Nat
  | [] => 0
  | t :: r => t.length + wt r
theorem digits_lt : ∀ (t : Tx) (acc : Nat), (∀ d ∈ t, isD d = true) → t.foldl (fun acc c => acc * 10 + (c - 48)) acc < (acc + 1) * 10 ^ t.length
  | [], acc, _ => by
    show acc < (acc + 1) * 10 ^ 0
    rw [Nat.pow_zero, Nat.mul_one]
    omega
  | c :: t, acc, h => by
    have ih := digits_lt t (acc * 10 + (c - 48)) fun d hd => h d (List.mem_cons_of_mem _ hd)
    have hc := h c List.mem_cons_self
    unfold isD at hc
    simp only [Bool.and_eq_true, decide_eq_true_eq] at hc
    show t.foldl (fun acc c => acc * 10 + (c - 48)) (acc * 10 + (c - 48)) < (acc + 1) * 10 ^ (t.length + 1)
    refine Nat.lt_of_lt_of_le ih ?_
    rw [Nat.pow_succ, Nat.mul_comm (10 ^ t.length) 10, ← Nat.mul_assoc]
    exact Nat.mul_le_mul_right _ (by omega)
theorem val_lt {t : Tx} (h : ∀ d ∈ t, isD d = true) : NumText.digitsVal t < 10 ^ t.length := by
  have := digits_lt t 0 h
  rw [Nat.zero_add, Nat.one_mul] at this
  exact this
theorem tokNat_inv {t : Tx} {n : Nat} (h : tokNat t = some n) (w : Wf t) : n < 10 ^ t.length ∧ t.length ≤ 100 ∧ 0 < t.length ∧ n = NumText.digitsVal t ∧ (∀ d ∈ t, isD d = true) := by
  cases t with
  | nil => cases h
  | cons c r =>
    have h' : (if isD c = true ∧ (c :: r).length ≤ 100 ∧ (c ≠ 48 ∨ r = []) then some (NumText.digitsVal (c :: r)) else none) = some n := h
    by_cases hc : isD c = true ∧ (c :: r).length ≤ 100 ∧ (c ≠ 48 ∨ r = [])
    · rw [if_pos hc] at h'
      cases h'
      have hd := (w c r rfl).1 hc.1
      exact ⟨val_lt hd, hc.2.1, by rw [List.length_cons]; omega, rfl, hd⟩
    · rw [if_neg hc] at h'
      cases h'
theorem pow_mono {a b : Nat} (h : a ≤ b) : 10 ^ a ≤ 10 ^ b := Nat.pow_le_pow_right (by decide) h
theorem tokNat_ok {t : Tx} {n : Nat} (h : tokNat t = some n) (w : Wf t) : NuOk n ∧ (numL n).length ≤ t.length := by
  obtain ⟨h1, h2, h3, _⟩ := tokNat_inv h w
  exact ⟨Nat.lt_of_lt_of_le h1 (pow_mono h2), TL.numL_len h3 h1⟩
theorem low_ok {s d : Int} {k m : Nat} (hd : 0 < d) (hs : s.natAbs < 10 ^ k) (hd2 : d.natAbs < 10 ^ m) (hk : k ≤ 100) (hm : m ≤ 100) : RtOk (low s d) ∧ (low s d).1.natAbs < 10 ^ k ∧ (low s d).2.natAbs < 10 ^ m ∧ ((low s d).1 < 0 → s < 0) := by
  have hg : 0 < Int.gcd s d := Int.gcd_pos_of_ne_zero_right _ (by omega)
  have h1 : (low s d).1.natAbs ≤ s.natAbs := Int.natAbs_ediv_le_natAbs _ _
  have h2 : (low s d).2.natAbs ≤ d.natAbs := Int.natAbs_ediv_le_natAbs _ _
  have hg' : (0 : Int) < (Int.gcd s d : Nat) := by omega
  refine ⟨⟨Int.ediv_pos_of_pos_of_dvd hd (by omega) (Int.gcd_dvd_right s d), Int.gcd_ediv_gcd_ediv_gcd hg, ?_, ?_⟩, by omega, by omega, fun hn => ?_⟩
  · exact Nat.lt_of_le_of_lt h1 (Nat.lt_of_lt_of_le hs (pow_mono hk))
  · exact Nat.lt_of_le_of_lt h2 (Nat.lt_of_lt_of_le hd2 (pow_mono hm))
  · by_cases hs0 : 0 ≤ s
    · have := Int.ediv_nonneg hs0 (Int.le_of_lt hg')
      have h3 : (low s d).1 = s / (Int.gcd s d : Nat) := rfl
      omega
    · omega
theorem numTx_len {q : Rt} {k m : Nat} (h1 : q.1.natAbs < 10 ^ k) (h2 : q.2.natAbs < 10 ^ m) (hk : 0 < k) (hm : 0 < m) (hp : 0 < q.2) : (numTx q).length ≤ (if q.1 < 0 then 1 else 0) + k + (if q.2 = 1 then 0 else 1 + m) := by
  have a1 := TL.numL_len hk h1
  have a2 := TL.numL_len hm h2
  unfold numTx intTx
  rw [if_neg (show ¬ q.2 < 0 by omega)]
  by_cases hq : q.2 = 1
  · rw [if_pos hq, if_pos hq]
    split
    · rw [List.length_cons]; omega
    · omega
  · rw [if_neg hq, if_neg hq, List.length_append, List.length_cons]
    split
    · rw [List.length_cons]; omega
    · omega
theorem low_one (s : Int) : (low s 1).2 = 1 := by
  unfold low
  rw [Int.gcd_one_right]
  rfl
theorem under_ok {s : Int} {k : Nat} {ts r : List Tx} {q : Rt} (h : under s ts = some (q, r)) (w : Wfs ts) (hs : s.natAbs < 10 ^ k) (hk : k ≤ 100) (hk0 : 0 < k) : RtOk q ∧ (numTx q).length + wt r ≤ (if s < 0 then 1 else 0) + k + wt ts := by
  have fin : ∀ {a b : Prop} [Decidable a] [Decidable b], (a → b) → (if a then 1 else 0 : Nat) ≤ (if b then 1 else 0) := fun {a b} _ _ z => by
    by_cases ha : a
    · rw [if_pos ha, if_pos (z ha)]; exact Nat.le_refl _
    · rw [if_neg ha]; exact Nat.zero_le _
  rcases under_inv h with ⟨rfl, rfl⟩ | ⟨t, n, rfl, ht, _, h0, rfl⟩
  · obtain ⟨o, h1, h2, h3⟩ := low_ok (s := s) (d := 1) (k := k) (m := 1) (by decide) hs (by decide) hk (by decide)
    have L := numTx_len h1 h2 hk0 (by decide) o.1
    rw [if_pos (low_one s)] at L
    have := fin h3
    exact ⟨o, by omega⟩
  · have wt' : Wf t := w t (by simp)
    obtain ⟨a1, a2, a3, a4, a5⟩ := tokNat_inv ht wt'
    have hn : 0 < (n : Int) := by
      by_cases hz : n = 0
      · exfalso
        cases t with
        | nil => simp at a3
        | cons c r' =>
          have h' : (if isD c = true ∧ (c :: r').length ≤ 100 ∧ (c ≠ 48 ∨ r' = []) then some (NumText.digitsVal (c :: r')) else none) = some n := ht
          by_cases hc : isD c = true ∧ (c :: r').length ≤ 100 ∧ (c ≠ 48 ∨ r' = [])
          · have hd := hc.1
            unfold isD at hd
            simp only [Bool.and_eq_true, decide_eq_true_eq] at hd
            by_cases h48 : c = 48
            · rcases hc.2.2 with z | z
              · exact z h48
              · exact h0 (by rw [h48, z])
            · have := NumText.digitsVal_pos (c := c) (cs := r') (by omega)
              omega
          · rw [if_neg hc] at h'
            cases h'
      · omega
    obtain ⟨o, h1, h2, h3⟩ := low_ok (s := s) (d := (n : Int)) (k := k) (m := t.length) hn hs (by rw [Int.natAbs_natCast]; exact a1) hk a2
    have L := numTx_len h1 h2 hk0 a3 o.1
    have := fin h3
    refine ⟨o, ?_⟩
    show _ ≤ _ + (1 + (t.length + wt r))
    have : (if (low s (n : Int)).2 = 1 then 0 else 1 + t.length) ≤ 1 + t.length := by split <;> omega
    omega
theorem rational_ok {ts r : List Tx} {q : Rt} (h : rational ts = some (q, r)) (w : Wfs ts) : RtOk q ∧ (numTx q).length + wt r ≤ wt ts := by
  obtain ⟨b, t, n, ts2, rfl, ht, _, hu⟩ := rational_inv h
  have w1 : Wf t := w t (by simp)
  have w2 : Wfs ts2 := fun z hz => w z (by simp [hz])
  obtain ⟨a1, a2, a3, _⟩ := tokNat_inv ht w1
  have hs : (sgn b n).natAbs < 10 ^ t.length := by
    unfold sgn
    cases b with
    | true => rw [if_pos rfl, Int.natAbs_neg, Int.natAbs_natCast]; exact a1
    | false => rw [if_neg Bool.false_ne_true, Int.natAbs_natCast]; exact a1
  obtain ⟨o, L⟩ := under_ok hu w2 hs a2 a3
  refine ⟨o, ?_⟩
  cases b with
  | true =>
    show _ ≤ wt ([45] :: t :: ts2)
    show _ ≤ 1 + (t.length + wt ts2)
    have : (if sgn true n < 0 then 1 else 0) ≤ 1 := by split <;> omega
    omega
  | false =>
    show _ ≤ t.length + wt ts2
    rw [if_neg (show ¬ sgn false n < 0 by unfold sgn; rw [if_neg Bool.false_ne_true]; omega)] at L
    omega
theorem joinL_snoc (S : Tx) (q : Tx) : ∀ l : List Tx, TL.joinL S (l ++ [q]) = if l = [] then q else TL.joinL S l ++ (S ++ q)
  | [] => rfl
  | [a] => rfl
  | a :: b :: l => by
    have ih := joinL_snoc S q (b :: l)
    rw [if_neg (by simp)] at ih ⊢
    show a ++ (S ++ TL.joinL S (b :: (l ++ [q]))) = (a ++ (S ++ TL.joinL S (b :: l))) ++ (S ++ q)
    rw [show TL.joinL S (b :: (l ++ [q])) = TL.joinL S ((b :: l) ++ [q]) from rfl, ih, List.append_assoc, List.append_assoc]
theorem numsTx_snoc (qs : List Rt) (q : Rt) : (numsTx (qs ++ [q])).length = (numsTx qs).length + (if qs = [] then 0 else 2) + (numTx q).length := by
  unfold numsTx
  rw [List.map_append, List.map_singleton, joinL_snoc]
  cases qs with
  | nil => simp [TL.joinL]
  | cons a l =>
    rw [if_neg (by simp), if_neg (by simp), List.length_append, List.length_append]
    have e2 : ([44, 32] : Tx).length = 2 := rfl
    omega
theorem nums_ok {cl : Tx} (hc : cl.length = 1) : ∀ (m : Nat) (acc : List Rt) (ts r : List Tx) (qs : List Rt), ts.length ≤ m → Wfs ts → (∀ q ∈ acc, RtOk q) → numsLoop cl acc ts = some (qs, r) →
    (∀ q ∈ qs, RtOk q) ∧ (numsTx qs).length + 3 * wt r + 3 ≤ (numsTx acc).length + 3 * wt ts
  | _, _, [], _, _, _, _, _, h => by rw [numsLoop] at h; cases h
  | 0, _, _ :: _, _, _, hm, _, _, _ => by simp at hm
  | m + 1, acc, t :: ts, r, qs, hm, w, ha, h => by
    rcases nums_inv h with ⟨rfl, rfl, rfl⟩ | ⟨ts1, q, ts2, _, h1, h2, h3, h4⟩
    · refine ⟨ha, ?_⟩
      show _ ≤ _ + 3 * (t.length + wt r)
      omega
    · have w1 : Wfs ts1 := (comma_eats h1).wfs w
      obtain ⟨o, L⟩ := rational_ok h2 w1
      have w2 : Wfs ts2 := (rational_eats h2).1.wfs w1
      obtain ⟨i1, i2⟩ := nums_ok hc m (acc ++ [q]) ts2 r qs (by rw [List.length_cons] at hm h3; omega) w2 (fun z hz => (List.mem_append.mp hz).elim (ha z) fun k => by rw [List.mem_singleton.mp k]; exact o) h4
      refine ⟨i1, ?_⟩
      rw [numsTx_snoc] at i2
      rcases comma_inv h1 with ⟨e, e2⟩ | ⟨e, e2⟩
      · have : acc = [] := by cases acc with | nil => rfl | cons _ _ => cases e
        rw [if_pos this] at i2
        rw [e2]
        omega
      · have : acc ≠ [] := fun z => by rw [z] at e; cases e
        rw [if_neg this] at i2
        rw [e2]
        show _ ≤ _ + 3 * (1 + wt ts1)
        omega
theorem numbers_ok {op cl : Tx} (ho : op.length = 1) (hc : cl.length = 1) {ts r : List Tx} {qs : List Rt} (h : numbers op cl ts = some (qs, r)) (w : Wfs ts) : (∀ q ∈ qs, RtOk q) ∧ (numsTx qs).length + 3 * wt r + 6 ≤ 3 * wt ts := by
  obtain ⟨ts1, rfl, h1⟩ := numbers_inv h
  obtain ⟨a, b⟩ := nums_ok hc _ [] _ _ _ (Nat.le_refl _) (fun t ht => w t (List.mem_cons_of_mem _ ht)) (fun q hq => by cases hq) h1
  refine ⟨a, ?_⟩
  have : (numsTx []).length = 0 := rfl
  show _ ≤ 3 * (op.length + wt ts1)
  omega
theorem trim_trim : ∀ p, trim (trim p) = trim p
  | [] => rfl
  | q :: p => by
    have ih := trim_trim p
    show trim (if trim p = [] ∧ q = (0, 1) then [] else q :: trim p) = (if trim p = [] ∧ q = (0, 1) then [] else q :: trim p)
    by_cases h : trim p = [] ∧ q = (0, 1)
    · rw [if_pos h]; rfl
    · rw [if_neg h]
      show (if trim (trim p) = [] ∧ q = (0, 1) then [] else q :: trim (trim p)) = q :: trim p
      rw [ih, if_neg h]
theorem trim_pre : ∀ p, ∃ s, p = trim p ++ s
  | [] => ⟨[], rfl⟩
  | q :: p => by
    obtain ⟨s, hs⟩ := trim_pre p
    show ∃ s, q :: p = (if trim p = [] ∧ q = (0, 1) then [] else q :: trim p) ++ s
    by_cases h : trim p = [] ∧ q = (0, 1)
    · rw [if_pos h]; exact ⟨_, rfl⟩
    · rw [if_neg h]; exact ⟨s, by rw [List.cons_append, ← hs]⟩
theorem joinL_pre (S : Tx) : ∀ l s : List Tx, (TL.joinL S l).length ≤ (TL.joinL S (l ++ s)).length
  | [], s => Nat.zero_le _
  | [a], [] => Nat.le_refl _
  | [a], b :: s => by
    show a.length ≤ (a ++ (S ++ TL.joinL S (b :: s))).length
    rw [List.length_append]
    omega
  | a :: b :: l, s => by
    have ih := joinL_pre S (b :: l) s
    show (a ++ (S ++ TL.joinL S (b :: l))).length ≤ (a ++ (S ++ TL.joinL S (b :: (l ++ s)))).length
    rw [List.length_append, List.length_append, List.length_append, List.length_append]
    have e : (TL.joinL S (b :: l)).length ≤ (TL.joinL S (b :: (l ++ s))).length := ih
    omega
theorem trim_ok {p : List Rt} (h : ∀ q ∈ p, RtOk q) : PoOk (trim p) ∧ (numsTx (trim p)).length ≤ (numsTx p).length := by
  obtain ⟨s, e⟩ := trim_pre p
  refine ⟨⟨fun q hq => h q (by rw [e]; exact List.mem_append_left _ hq), trim_trim p⟩, ?_⟩
  have := joinL_pre [44, 32] ((trim p).map numTx) (s.map numTx)
  rw [← List.map_append, ← e] at this
  exact this
theorem natural_ok {ts r : List Tx} {n : Nat} (h : natural ts = some (n, r)) (w : Wfs ts) : NuOk n ∧ (numL n).length + wt r ≤ wt ts := by
  obtain ⟨t, rfl, e, _⟩ := natural_inv h
  obtain ⟨a, b⟩ := tokNat_ok e (w t List.mem_cons_self)
  exact ⟨a, by show _ ≤ t.length + wt r; omega⟩

/-! ### terms -/
def Snd (l d : Nat) (f : List Tx → Res Tm) : Prop := ∀ ts T r, Wfs ts → f ts = some (T, r) → Ok T ∧ pdw l T ≤ d ∧ (fmtw l T).length + 3 * wt r ≤ 3 * wt ts
theorem fmtw_lt {l : Nat} {T : Tm} (h : lev T < l) : fmtw l T = 40 :: (fmt T ++ [41]) := by
  unfold fmtw
  rw [decide_eq_true h]
  rfl
theorem fmtw_ge {l : Nat} {T : Tm} (h : l ≤ lev T) : fmtw l T = fmt T := by
  unfold fmtw
  rw [decide_eq_false (by omega)]
  rfl
theorem fmtw_mono {l m : Nat} (h : l ≤ m) (T : Tm) : (fmtw l T).length ≤ (fmtw m T).length ∧ (fmtw m T).length ≤ (fmt T).length + 2 ∧ (fmt T).length ≤ (fmtw l T).length := by
  by_cases h1 : lev T < l
  · rw [fmtw_lt h1, fmtw_lt (by omega)]
    simp only [List.length_cons, List.length_append, List.length_nil]
    omega
  · rw [fmtw_ge (by omega)]
    by_cases h2 : lev T < m
    · rw [fmtw_lt h2]
      simp only [List.length_cons, List.length_append, List.length_nil]
      omega
    · rw [fmtw_ge (by omega)]
      omega
theorem pdw_mono {l m : Nat} (h : l ≤ m) (T : Tm) : pdw l T ≤ pdw m T ∧ pdw m T ≤ pd T + 1 ∧ pd T ≤ pdw l T := by
  by_cases h1 : lev T < l
  · rw [pdw_lt h1, pdw_lt (by omega)]
    omega
  · rw [pdw_ge (by omega)]
    by_cases h2 : lev T < m
    · rw [pdw_lt h2]
      omega
    · rw [pdw_ge (by omega)]
      omega
theorem pow_snd {d : Nat} : ∀ (m : Nat) (here T : Tm) (ts r : List Tx), ts.length ≤ m → Wfs ts → Ok here → pdw 5 here ≤ d → powLoop here ts = some (T, r) →
    Ok T ∧ pdw 5 T ≤ d ∧ (fmtw 5 T).length + 3 * wt r ≤ (fmtw 5 here).length + 3 * wt ts
  | _, _, _, [], _, _, _, _, _, h => by cases h
  | 0, _, _, _ :: _, _, hm, _, _, _, _ => by simp at hm
  | m + 1, here, T, t :: ts, r, hm, w, ho, hp, h => by
    rcases pow_inv h with ⟨_, rfl, rfl⟩ | ⟨t2, n, ts2, rfl, rfl, e, h2⟩
    · exact ⟨ho, hp, Nat.le_refl _⟩
    · obtain ⟨a, b⟩ := tokNat_ok e (w t2 (by simp))
      have e1 : fmtw 5 (.pow here n) = fmtw 5 here ++ (32 :: 94 :: 32 :: numL n) := fmtw_ge (by simp [lev])
      have e2 : pdw 5 (.pow here n) = pdw 5 here := pdw_ge (by simp [lev])
      obtain ⟨i1, i2, i3⟩ := pow_snd (d := d) m (.pow here n) T ts2 r (by rw [List.length_cons, List.length_cons] at hm; omega) (fun z hz => w z (by simp [hz])) ⟨ho, a⟩ (by rw [e2]; exact hp) h2
      refine ⟨i1, i2, ?_⟩
      rw [e1] at i3
      simp only [List.length_append, List.length_cons] at i3
      show _ ≤ _ + 3 * (1 + (t2.length + wt ts2))
      omega
theorem minuses_wt : ∀ ts : List Tx, wt ts = (minuses ts).1 + wt (minuses ts).2
  | [] => rfl
  | t :: r => by
    have ih := minuses_wt r
    by_cases h : t = [45]
    · subst h
      rw [minuses_yes]
      show 1 + wt r = (minuses r).1 + 1 + wt (minuses r).2
      omega
    · rw [minuses_not h]
      show _ = 0 + _
      rw [Nat.zero_add]
theorem negs_ok {p : Tm} (h : Ok p) : ∀ k, Ok (negs k p) ∧ pdw 4 (negs k p) = pdw 4 p ∧ (fmtw 4 (negs k p)).length = k + (fmtw 4 p).length
  | 0 => ⟨h, rfl, (Nat.zero_add _).symm⟩
  | k + 1 => by
    obtain ⟨i1, i2, i3⟩ := negs_ok h k
    have e1 : fmtw 4 (.neg (negs k p)) = 45 :: fmtw 4 (negs k p) := fmtw_ge (by simp [lev])
    have e2 : pdw 4 (.neg (negs k p)) = pdw 4 (negs k p) := pdw_ge (by simp [lev])
    refine ⟨i1, e2.trans i2, ?_⟩
    show (fmtw 4 (.neg (negs k p))).length = _
    rw [e1, List.length_cons, i3]
    omega
theorem bin_snd {l d : Nat} {sub : List Tx → Res Tm} (hs : Snd (l + 1) d sub) (he : EatsF sub) : ∀ (m : Nat) (here T : Tm) (ts r : List Tx), ts.length ≤ m → Wfs ts → Ok here → pdw l here ≤ d → binLoop l sub here ts = some (T, r) →
    Ok T ∧ pdw l T ≤ d ∧ (fmtw l T).length + 3 * wt r ≤ (fmtw l here).length + 3 * wt ts
  | _, _, _, [], _, _, _, _, _, h => by rw [binLoop] at h; cases h
  | 0, _, _, _ :: _, _, hm, _, _, _, _ => by simp at hm
  | m + 1, here, T, t :: ts, r, hm, w, ho, hp, h => by
    rcases bin_inv h with ⟨_, rfl, rfl⟩ | ⟨o, b, ts2, e, h1, h2, h3⟩
    · exact ⟨ho, hp, Nat.le_refl _⟩
    · obtain ⟨et, el⟩ := opAt_inv e
      have w1 : Wfs ts := fun z hz => w z (List.mem_cons_of_mem _ hz)
      obtain ⟨s1, s2, s3⟩ := hs _ _ _ w1 h1
      have e1 : fmtw l (.bin o here b) = fmtw l here ++ (32 :: o.sym :: 32 :: fmtw (l + 1) b) := by
        rw [fmtw_ge (show l ≤ lev (.bin o here b) by show l ≤ o.lev; omega)]
        show fmtw o.lev here ++ (32 :: o.sym :: 32 :: fmtw (o.lev + 1) b) = _
        rw [el]
      have e2 : pdw l (.bin o here b) = max (pdw l here) (pdw (l + 1) b) := by
        rw [pdw_ge (show l ≤ lev (.bin o here b) by show l ≤ o.lev; omega)]
        show max (pdw o.lev here) (pdw (o.lev + 1) b) = _
        rw [el]
      obtain ⟨i1, i2, i3⟩ := bin_snd hs he m (.bin o here b) T ts2 r (by rw [List.length_cons] at hm h2; omega) ((he _ _ _ h1).wfs w1) ⟨ho, s1⟩ (by rw [e2]; omega) h3
      refine ⟨i1, i2, ?_⟩
      rw [e1] at i3
      simp only [List.length_append, List.length_cons] at i3
      show _ ≤ _ + 3 * (t.length + wt ts)
      rw [et]
      simp only [List.length_cons, List.length_nil]
      omega
theorem argM_snd {f : List Tx → Res Tm} {d : Nat} (hf : Snd 1 d f) {w : Tx} {s : Nat} {ts r : List Tx} {a : Arg} (h : argM f w s ts = some (a, r)) (wf : Wfs ts) : (∃ n, a = .num n ∧ s = 110 ∧ NuOk n ∧ (numL n).length + 3 * wt r ≤ 3 * wt ts) ∨
    (∃ t, a = .sub t ∧ s = 101 ∧ Ok t ∧ pd t ≤ d ∧ (fmt t).length + 3 * wt r ≤ 3 * wt ts) ∨ ∃ p, a = .poly p ∧ s ≠ 110 ∧ s ≠ 101 ∧ PoOk p ∧ (p = [] → w ≠ wRoots) ∧ (numsTx p).length + 3 * wt r + 6 ≤ 3 * wt ts := by
  rcases argM_inv h with ⟨hs, n, e, rfl⟩ | ⟨hs, t, e, rfl⟩ | ⟨hs, hs2, p, e, hw, rfl⟩
  · obtain ⟨a, b⟩ := natural_ok e wf
    exact .inl ⟨n, rfl, hs, a, by omega⟩
  · obtain ⟨a, b, c⟩ := hf _ _ _ wf e
    rw [fmtw_ge (lev_le t).1] at c
    rw [pdw_ge (lev_le t).1] at b
    exact .inr (.inl ⟨t, rfl, hs, a, b, c⟩)
  · obtain ⟨a, b⟩ := numbers_ok rfl rfl e wf
    obtain ⟨c, d⟩ := trim_ok a
    exact .inr (.inr ⟨trim p, rfl, hs, hs2, c, hw, by omega⟩)
theorem comma_wt {ts r : List Tx} (h : comma false ts = some r) : wt ts = wt r + 1 := by
  rcases comma_inv h with ⟨e, _⟩ | ⟨_, rfl⟩
  · cases e
  · show 1 + wt r = _
    omega
theorem comma_true {ts r : List Tx} (h : comma true ts = some r) : ts = r := by
  rcases comma_inv h with ⟨_, e⟩ | ⟨e, _⟩
  · exact e
  · cases e
theorem args1 {f : List Tx → Res Tm} {w : Tx} {s : Nat} {ts r : List Tx} {as : List Arg} (h : argsM f w [s] true ts = some (as, r)) : ∃ a, argM f w s ts = some (a, r) ∧ as = [a] := by
  obtain ⟨ts1, a, ts2, as', e1, e2, e3, rfl⟩ := argsM_inv h
  cases comma_true e1
  cases e3
  exact ⟨a, e2, rfl⟩
theorem args2 {f : List Tx → Res Tm} {w : Tx} {s s2 : Nat} {ts r : List Tx} {as : List Arg} (h : argsM f w [s, s2] true ts = some (as, r)) : ∃ a b ts2 ts3, argM f w s ts = some (a, ts2) ∧ comma false ts2 = some ts3 ∧ argM f w s2 ts3 = some (b, r) ∧ as = [a, b] := by
  obtain ⟨ts1, a, ts2, as', e1, e2, e3, rfl⟩ := argsM_inv h
  cases comma_true e1
  obtain ⟨ts3, b, ts4, as2, k1, k2, k3, rfl⟩ := argsM_inv e3
  cases k3
  exact ⟨a, b, ts2, ts3, e2, k1, k2, rfl⟩
theorem form_cases {w : Tx} {fs : List Nat} (h : formOf w = some fs) : (w = wRoots ∧ fs = [112]) ∨ (w = wUnity ∧ fs = [110]) ∨ (w = wMap ∧ fs = [112, 101]) ∨ (w = wSums ∧ fs = [101, 110]) ∨ (w = wProds ∧ fs = [101, 110]) ∨ (w = wDist ∧ fs = [101]) ∨ (w = wComm ∧ fs = [101, 101]) ∨ (w = wWout ∧ fs = [101, 101]) := by
  unfold formOf at h
  by_cases h1 : w = wRoots
  · rw [if_pos h1] at h; cases h; exact .inl ⟨h1, rfl⟩
  rw [if_neg h1] at h
  by_cases h2 : w = wUnity
  · rw [if_pos h2] at h; cases h; exact .inr (.inl ⟨h2, rfl⟩)
  rw [if_neg h2] at h
  by_cases h3 : w = wMap
  · rw [if_pos h3] at h; cases h; exact .inr (.inr (.inl ⟨h3, rfl⟩))
  rw [if_neg h3] at h
  by_cases h4 : w = wSums
  · rw [if_pos h4] at h; cases h; exact .inr (.inr (.inr (.inl ⟨h4, rfl⟩)))
  rw [if_neg h4] at h
  by_cases h5 : w = wProds
  · rw [if_pos h5] at h; cases h; exact .inr (.inr (.inr (.inr (.inl ⟨h5, rfl⟩))))
  rw [if_neg h5] at h
  by_cases h6 : w = wDist
  · rw [if_pos h6] at h; cases h; exact .inr (.inr (.inr (.inr (.inr (.inl ⟨h6, rfl⟩)))))
  rw [if_neg h6] at h
  by_cases h7 : w = wComm
  · rw [if_pos h7] at h; cases h; exact .inr (.inr (.inr (.inr (.inr (.inr (.inl ⟨h7, rfl⟩))))))
  rw [if_neg h7] at h
  by_cases h8 : w = wWout
  · rw [if_pos h8] at h; cases h; exact .inr (.inr (.inr (.inr (.inr (.inr (.inr ⟨h8, rfl⟩))))))
  rw [if_neg h8] at h
  cases h
theorem fun_snd {f : List Tx → Res Tm} {d : Nat} (hf : Snd 1 d f) (he : EatsF f) {w : Tx} {fs : List Nat} {ts r : List Tx} {as : List Arg} {T : Tm} (hw : formOf w = some fs) (h : argsM f w fs true ts = some (as, r)) (hm : mk w as = some T) (wf : Wfs ts) :
    Ok T ∧ lev T = 6 ∧ pd T ≤ d + 1 ∧ (fmt T).length + 3 * wt r ≤ w.length + 2 + 3 * wt ts := by
  have one : ∀ {s a}, as = [a] → argM f w s ts = some (a, r) → _ := fun {s a} _ e => argM_snd hf e wf
  have two : ∀ {s s2 a b ts2 ts3}, argM f w s ts = some (a, ts2) → comma false ts2 = some ts3 → argM f w s2 ts3 = some (b, r) → Wfs ts3 := fun {s s2 a b ts2 ts3} e1 e2 e3 => (comma_eats e2).wfs ((argM_eats he e1).wfs wf)
  rcases form_cases hw with ⟨rfl, rfl⟩ | ⟨rfl, rfl⟩ | ⟨rfl, rfl⟩ | ⟨rfl, rfl⟩ | ⟨rfl, rfl⟩ | ⟨rfl, rfl⟩ | ⟨rfl, rfl⟩ | ⟨rfl, rfl⟩
  · obtain ⟨a, e, rfl⟩ := args1 h
    rcases argM_snd hf e wf with ⟨n, _, z, _⟩ | ⟨t, _, z, _⟩ | ⟨p, rfl, _, _, o, nz, L⟩
    · exact absurd z (by decide)
    · exact absurd z (by decide)
    · cases hm
      refine ⟨⟨o, fun z => nz z rfl⟩, rfl, by show 1 ≤ d + 1; omega, ?_⟩
      show (wRoots ++ (40 :: 91 :: (numsTx p ++ [93, 41]))).length + _ ≤ _
      simp only [List.length_append, List.length_cons, List.length_nil]
      omega
  · obtain ⟨a, e, rfl⟩ := args1 h
    rcases argM_snd hf e wf with ⟨n, rfl, _, o, L⟩ | ⟨t, _, z, _⟩ | ⟨p, _, z, _⟩
    · cases hm
      refine ⟨o, rfl, by show 1 ≤ d + 1; omega, ?_⟩
      show (wUnity ++ (40 :: (numL n ++ [41]))).length + _ ≤ _
      simp only [List.length_append, List.length_cons, List.length_nil]
      omega
    · exact absurd z (by decide)
    · exact absurd rfl z
  · obtain ⟨a, b, ts2, ts3, e1, e2, e3, rfl⟩ := args2 h
    rcases argM_snd hf e1 wf with ⟨n, _, z, _⟩ | ⟨t, _, z, _⟩ | ⟨p, rfl, _, _, o, nz, L⟩
    · exact absurd z (by decide)
    · exact absurd z (by decide)
    · rcases argM_snd hf e3 (two e1 e2 e3) with ⟨n, _, z, _⟩ | ⟨t, rfl, _, o2, pt, L2⟩ | ⟨p, _, _, z, _⟩
      · exact absurd z (by decide)
      · cases hm
        have := comma_wt e2
        refine ⟨⟨o, o2⟩, rfl, by show pd t + 1 ≤ d + 1; omega, ?_⟩
        show (wMap ++ (40 :: 91 :: (numsTx p ++ (93 :: 44 :: 32 :: (fmt t ++ [41]))))).length + _ ≤ _
        simp only [List.length_append, List.length_cons, List.length_nil]
        omega
      · exact absurd rfl z
  · obtain ⟨a, b, ts2, ts3, e1, e2, e3, rfl⟩ := args2 h
    rcases argM_snd hf e1 wf with ⟨n, _, z, _⟩ | ⟨t, rfl, _, o, pt, L⟩ | ⟨p, _, _, z, _⟩
    · exact absurd z (by decide)
    · rcases argM_snd hf e3 (two e1 e2 e3) with ⟨n, rfl, _, o2, L2⟩ | ⟨t, _, z, _⟩ | ⟨p, _, z, _⟩
      · cases hm
        have := comma_wt e2
        refine ⟨⟨o, o2⟩, rfl, by show pd t + 1 ≤ d + 1; omega, ?_⟩
        show (wSums ++ (40 :: (fmt t ++ (44 :: 32 :: (numL n ++ [41]))))).length + _ ≤ _
        simp only [List.length_append, List.length_cons, List.length_nil]
        omega
      · exact absurd z (by decide)
      · exact absurd rfl z
    · exact absurd rfl z
  · obtain ⟨a, b, ts2, ts3, e1, e2, e3, rfl⟩ := args2 h
    rcases argM_snd hf e1 wf with ⟨n, _, z, _⟩ | ⟨t, rfl, _, o, pt, L⟩ | ⟨p, _, _, z, _⟩
    · exact absurd z (by decide)
    · rcases argM_snd hf e3 (two e1 e2 e3) with ⟨n, rfl, _, o2, L2⟩ | ⟨t, _, z, _⟩ | ⟨p, _, z, _⟩
      · cases hm
        have := comma_wt e2
        refine ⟨⟨o, o2⟩, rfl, by show pd t + 1 ≤ d + 1; omega, ?_⟩
        show (wProds ++ (40 :: (fmt t ++ (44 :: 32 :: (numL n ++ [41]))))).length + _ ≤ _
        simp only [List.length_append, List.length_cons, List.length_nil]
        omega
      · exact absurd z (by decide)
      · exact absurd rfl z
    · exact absurd rfl z
  · obtain ⟨a, e, rfl⟩ := args1 h
    rcases argM_snd hf e wf with ⟨n, _, z, _⟩ | ⟨t, rfl, _, o, pt, L⟩ | ⟨p, _, _, z, _⟩
    · exact absurd z (by decide)
    · cases hm
      refine ⟨o, rfl, by show pd t + 1 ≤ d + 1; omega, ?_⟩
      show (wDist ++ (40 :: (fmt t ++ [41]))).length + _ ≤ _
      simp only [List.length_append, List.length_cons, List.length_nil]
      omega
    · exact absurd rfl z
  · obtain ⟨a, b, ts2, ts3, e1, e2, e3, rfl⟩ := args2 h
    rcases argM_snd hf e1 wf with ⟨n, _, z, _⟩ | ⟨t, rfl, _, o, pt, L⟩ | ⟨p, _, _, z, _⟩
    · exact absurd z (by decide)
    · rcases argM_snd hf e3 (two e1 e2 e3) with ⟨n, _, z, _⟩ | ⟨t2, rfl, _, o2, pt2, L2⟩ | ⟨p, _, _, z, _⟩
      · exact absurd z (by decide)
      · cases hm
        have := comma_wt e2
        refine ⟨⟨o, o2⟩, rfl, by show max (pd t) (pd t2) + 1 ≤ d + 1; omega, ?_⟩
        show (wComm ++ (40 :: (fmt t ++ (44 :: 32 :: (fmt t2 ++ [41]))))).length + _ ≤ _
        simp only [List.length_append, List.length_cons, List.length_nil]
        omega
      · exact absurd rfl z
    · exact absurd rfl z
  · obtain ⟨a, b, ts2, ts3, e1, e2, e3, rfl⟩ := args2 h
    rcases argM_snd hf e1 wf with ⟨n, _, z, _⟩ | ⟨t, rfl, _, o, pt, L⟩ | ⟨p, _, _, z, _⟩
    · exact absurd z (by decide)
    · rcases argM_snd hf e3 (two e1 e2 e3) with ⟨n, _, z, _⟩ | ⟨t2, rfl, _, o2, pt2, L2⟩ | ⟨p, _, _, z, _⟩
      · exact absurd z (by decide)
      · cases hm
        have := comma_wt e2
        refine ⟨⟨o, o2⟩, rfl, by show max (pd t) (pd t2) + 1 ≤ d + 1; omega, ?_⟩
        show (wWout ++ (40 :: (fmt t ++ (44 :: 32 :: (fmt t2 ++ [41]))))).length + _ ≤ _
        simp only [List.length_append, List.length_cons, List.length_nil]
        omega
      · exact absurd rfl z
    · exact absurd rfl z
def SndR (d : Nat) (rec : Option (List Tx → Res Tm)) : Prop := ∀ f, rec = some f → EatsF f ∧ ∃ d', d = d' + 1 ∧ Snd 1 d' f
theorem atom_snd {rec : Option (List Tx → Res Tm)} {d : Nat} (hr : SndR d rec) : Snd 6 d (atomM rec) := fun ts T r w h => by
  rcases atom_inv h with ⟨qs, e, rfl⟩ | ⟨ts1, rfl, e⟩ | ⟨t, ts2, rfl, e, e2⟩ | ⟨t, rfl, e, hl, rfl⟩
  · obtain ⟨a, b⟩ := numbers_ok rfl rfl e w
    refine ⟨a, by rw [pdw_ge (by simp [lev])]; exact Nat.zero_le _, ?_⟩
    rw [fmtw_ge (by simp [lev])]
    show (123 :: (numsTx qs ++ [125])).length + _ ≤ _
    simp only [List.length_append, List.length_cons, List.length_nil]
    omega
  · obtain ⟨f, e1, e2⟩ := paren_inv e
    obtain ⟨_, d', rfl, hf⟩ := hr f e1
    obtain ⟨o, p, L⟩ := hf _ _ _ (fun z hz => w z (List.mem_cons_of_mem _ hz)) e2
    rw [pdw_ge (lev_le T).1] at p
    rw [fmtw_ge (lev_le T).1] at L
    have h1 := (fmtw_mono (Nat.le_refl 6) T).2.1
    have h2 := (pdw_mono (Nat.le_refl 6) T).2.1
    refine ⟨o, by omega, ?_⟩
    show _ ≤ 3 * (1 + wt ts1)
    have h3 : wt ([41] :: r) = 1 + wt r := rfl
    omega
  · obtain ⟨fs, f, as, hfs, e1, e3, e4⟩ := fun_inv e2
    obtain ⟨he, d', rfl, hf⟩ := hr f e1
    obtain ⟨o, hl, p, L⟩ := fun_snd hf he hfs e3 e4 fun z hz => w z (List.mem_cons_of_mem _ (List.mem_cons_of_mem _ hz))
    refine ⟨o, by rw [pdw_ge (by omega)]; exact p, ?_⟩
    rw [fmtw_ge (by omega)]
    show _ ≤ 3 * (t.length + (1 + wt ts2))
    have h3 : wt ([41] :: r) = 1 + wt r := rfl
    omega
  · have hL : ∀ c ∈ t, isL c = true := by
      cases t with
      | nil => cases e
      | cons c t => exact (w (c :: t) List.mem_cons_self c t rfl).2 e
    refine ⟨⟨headL_ne e, hl, hL⟩, by rw [pdw_ge (by simp [lev])]; exact Nat.zero_le _, ?_⟩
    rw [fmtw_ge (by simp [lev])]
    show t.length + _ ≤ 3 * (t.length + wt r)
    omega
theorem lv_snd {rec : Option (List Tx → Res Tm)} {d : Nat} (hr : SndR d rec) : ∀ k, k ≤ 3 → Snd (4 - k) d (lv rec k)
  | 0, _ => fun ts T r w h => by
    obtain ⟨p, e, rfl⟩ := signed_inv h
    obtain ⟨a, r1, e1, e2⟩ := powM_inv e
    have w1 := (minuses_eats ts).wfs w
    obtain ⟨o, pa, L⟩ := atom_snd hr _ _ _ w1 e1
    have w2 := (atom_eats (fun f z => (hr f z).1) _ _ _ e1).wfs w1
    have m1 := (pdw_mono (show 5 ≤ 6 by decide) a).1
    have m2 := (fmtw_mono (show 5 ≤ 6 by decide) a).1
    obtain ⟨o2, p2, L2⟩ := pow_snd (d := d) _ _ _ _ _ (Nat.le_refl _) w2 o (by omega) e2
    obtain ⟨o3, p3, L3⟩ := negs_ok o2 (minuses ts).1
    have m3 := (pdw_mono (show 4 ≤ 5 by decide) p).1
    have m4 := (fmtw_mono (show 4 ≤ 5 by decide) p).1
    have hw := minuses_wt ts
    refine ⟨o3, ?_, ?_⟩
    · show pdw 4 _ ≤ d
      omega
    · show (fmtw 4 _).length + _ ≤ _
      omega
  | k + 1, hk => fun ts T r w h => by
    obtain ⟨a, r1, e1, e2⟩ := lv_inv h
    have ih := lv_snd hr k (by omega)
    have eq : 4 - k = (3 - k) + 1 := by omega
    rw [eq] at ih
    have ie := lv_eats (fun f z => (hr f z).1) k
    obtain ⟨o, pa, L⟩ := ih _ _ _ w e1
    have m1 := (pdw_mono (show 3 - k ≤ (3 - k) + 1 by omega) a).1
    have m2 := (fmtw_mono (show 3 - k ≤ (3 - k) + 1 by omega) a).1
    obtain ⟨o2, p2, L2⟩ := bin_snd ih ie _ _ _ _ _ (Nat.le_refl _) ((ie _ _ _ e1).wfs w) o (by omega) e2
    rw [show 4 - (k + 1) = 3 - k by omega]
    exact ⟨o2, p2, by omega⟩
theorem P_snd : ∀ d, Snd 1 d (P d)
  | 0 => lv_snd (rec := none) (fun f z => by cases z) 3 (by decide)
  | d + 1 => lv_snd (rec := some (P d)) (fun f z => by cases z; exact ⟨P_eats d, d, rfl, P_snd d⟩) 3 (by decide)
/-! ### the tokens of a text -/
theorem take_mem {p : Nat → Bool} : ∀ (r : Tx) (c : Nat), c ∈ r.takeWhile p → p c = true
  | [], _, h => by cases h
  | a :: r, c, h => by
    rw [List.takeWhile_cons] at h
    by_cases ha : p a = true
    · rw [if_pos ha] at h
      rcases List.mem_cons.mp h with rfl | h
      · exact ha
      · exact take_mem r c h
    · rw [if_neg ha] at h
      cases h
theorem take_len (p : Nat → Bool) : ∀ r : Tx, (r.takeWhile p).length + (r.dropWhile p).length = r.length
  | [] => rfl
  | a :: r => by
    have ih := take_len p r
    rw [List.takeWhile_cons, List.dropWhile_cons]
    by_cases ha : p a = true
    · rw [if_pos ha, if_pos ha, List.length_cons, List.length_cons]
      omega
    · rw [if_neg ha, if_neg ha, List.length_cons]
      show 0 + _ = _
      omega
theorem scan_wf : ∀ (m : Nat) (t : Tx), t.length ≤ m → Wfs (scan t) ∧ wt (scan t) ≤ t.length
  | _, [], _ => by
    rw [scan_nil]
    exact ⟨fun _ h => (by cases h), Nat.le_refl _⟩
  | 0, _ :: _, h => by simp at h
  | m + 1, c :: r, h => by
    rw [List.length_cons] at h
    by_cases h1 : isL c = true
    · have tl := take_len isL r
      obtain ⟨i1, i2⟩ := scan_wf m (r.dropWhile isL) (by omega)
      rw [scan_L h1]
      refine ⟨fun t ht => ?_, ?_⟩
      · rcases List.mem_cons.mp ht with rfl | ht
        · have all : ∀ d ∈ c :: r.takeWhile isL, isL d = true := fun d hd => (List.mem_cons.mp hd).elim (fun e => by rw [e]; exact h1) (take_mem r d)
          intro a s e
          cases e
          exact ⟨fun z => (by have := isD_notL z; rw [h1] at this; cases this), fun _ => all⟩
        · exact i1 t ht
      · show (r.takeWhile isL).length + 1 + wt (scan (r.dropWhile isL)) ≤ r.length + 1
        omega
    · by_cases h2 : isD c = true
      · have tl := take_len isD r
        obtain ⟨i1, i2⟩ := scan_wf m (r.dropWhile isD) (by omega)
        rw [scan_D h2]
        refine ⟨fun t ht => ?_, ?_⟩
        · rcases List.mem_cons.mp ht with rfl | ht
          · have all : ∀ d ∈ c :: r.takeWhile isD, isD d = true := fun d hd => (List.mem_cons.mp hd).elim (fun e => by rw [e]; exact h2) (take_mem r d)
            intro a s e
            cases e
            exact ⟨fun _ => all, fun z => absurd z h1⟩
          · exact i1 t ht
        · show (r.takeWhile isD).length + 1 + wt (scan (r.dropWhile isD)) ≤ r.length + 1
          omega
      · obtain ⟨i1, i2⟩ := scan_wf m r (by omega)
        by_cases h3 : c = 32
        · subst h3
          rw [scan_S]
          exact ⟨i1, by rw [List.length_cons]; omega⟩
        · rw [scan_M (Bool.eq_false_iff.mpr h1) (Bool.eq_false_iff.mpr h2) h3]
          refine ⟨fun t ht => ?_, ?_⟩
          · rcases List.mem_cons.mp ht with rfl | ht
            · intro a s e
              cases e
              exact ⟨fun z => absurd z h2, fun z => absurd z h1⟩
            · exact i1 t ht
          · show 1 + wt (scan r) ≤ r.length + 1
            omega
theorem wt_snoc : ∀ ts : List Tx, wt (ts ++ [[]]) = wt ts
  | [] => rfl
  | t :: r => by
    show t.length + wt (r ++ [[]]) = t.length + wt r
    rw [wt_snoc r]
theorem toks_wf (t : Tx) : Wfs (scan t ++ [[]]) := fun u hu => by
  rcases List.mem_append.mp hu with h | h
  · exact (scan_wf _ t (Nat.le_refl _)).1 u h
  · rw [List.mem_singleton.mp h]
    intro c r e
    cases e
/-- what a text that can be parsed yields -/
theorem parse_sound {t : Tx} {T : Tm} (h : parseT t = some T) : Ok T ∧ pd T ≤ 20 ∧ nodes T ≤ 60 ∧ (fmt T).length ≤ 3 * t.length ∧ t.length ≤ 400 := by
  unfold parseT at h
  by_cases h1 : t.length > 400
  · rw [if_pos h1] at h; cases h
  rw [if_neg h1] at h
  cases e : P 20 (scan t ++ [[]]) with
  | none => rw [e] at h; cases h
  | some x =>
    obtain ⟨T', r⟩ := x
    rw [e] at h
    cases r with
    | nil => cases h
    | cons t' r' =>
      have h' : (if t' = [] then (if nodes T' > 60 then none else some T') else none) = some T := h
      by_cases h2 : t' = []
      · rw [if_pos h2] at h'
        by_cases h3 : nodes T' > 60
        · rw [if_pos h3] at h'; cases h'
        · rw [if_neg h3] at h'
          cases h'
          obtain ⟨o, p, L⟩ := P_snd 20 _ _ _ (toks_wf t) e
          rw [pdw_ge (lev_le T).1] at p
          rw [fmtw_ge (lev_le T).1, wt_snoc] at L
          have := (scan_wf _ t (Nat.le_refl _)).2
          exact ⟨o, p, by omega, by omega, by omega⟩
      · rw [if_neg h2] at h'; cases h'
/-- .. is yielded by its canonical text too -/
theorem parse_again {t : Tx} {T : Tm} (h : parseT t = some T) (ht : t.length ≤ 133) : parseT (fmt T) = some T := by
  obtain ⟨o, p, n, L, _⟩ := parse_sound h
  exact parse_fmt o (by omega) p n
/-! ### one text within two pairs of parentheses -/
theorem paren_atom {T : Tm} {d : Nat} (h : Ok T) (hp : pd T ≤ d) (r : List Tx) : atomM (rcd (d + 1)) ([40] :: (tk T ++ ([41] :: r))) = some (T, r) := by
  have q := (g_all T h d).whole hp stop_par r
  show close (P d (tk T ++ [41] :: r)) = _
  rw [q]
  rfl
theorem paren_signed {T : Tm} {d : Nat} (h : Ok T) (hp : pd T ≤ d) {t : Tx} {r : List Tx} (ht : t ≠ [94]) : lv (rcd (d + 1)) 0 ([40] :: (tk T ++ ([41] :: t :: r))) = some (T, t :: r) := by
  show signed _ _ = _
  rw [signed_not (by decide)]
  unfold powM
  rw [paren_atom h hp]
  show (match powLoop T (t :: r) with | none => none | some (p, r) => some (p, r)) = _
  rw [powLoop_stop ht]
theorem both_toks {a b : Tm} (ha : Ok a) (hb : Ok b) {o : Bop} : scan (40 :: (fmt a ++ (41 :: 32 :: o.sym :: 32 :: 40 :: (fmt b ++ [41])))) = [40] :: (tk a ++ ([41] :: [o.sym] :: [40] :: (tk b ++ [[41]]))) := by
  have g : AnyS (40 :: (fmt a ++ (41 :: 32 :: o.sym :: 32 :: 40 :: (fmt b ++ [41])))) ([40] :: (tk a ++ ([41] :: [o.sym] :: [40] :: (tk b ++ [[41]])))) :=
    AnyS.cons (mk_of (by decide)) ((good_fmt a ha).mark (c := 41) (by decide) (AnyS.cons (mk_of (by decide)) (AnyS.sp (AnyS.cons (sym_mark o) (AnyS.sp (AnyS.cons (mk_of (by decide)) ((good_fmt b hb).mark (c := 41) (y := []) (by decide) any_close)))))))
  have e := g []
  rw [List.append_nil, scan_nil, List.append_nil] at e
  exact e
theorem both_parse {a b : Tm} (ha : Ok a) (hb : Ok b) (pa : pd a ≤ 19) (pb : pd b ≤ 19) {o : Bop} : P 20 ((scan (40 :: (fmt a ++ (41 :: 32 :: o.sym :: 32 :: 40 :: (fmt b ++ [41]))))) ++ [[]]) = some (.bin o a b, [[]]) := by
  rw [both_toks ha hb, P_eq]
  have e : ([40] :: (tk a ++ ([41] :: [o.sym] :: [40] :: (tk b ++ [[41]])))) ++ [[]] = [40] :: (tk a ++ ([41] :: [o.sym] :: ([40] :: (tk b ++ ([41] :: [[]]))))) := by simp
  rw [e]
  have s1 := paren_signed (d := 19) ha pa (t := [o.sym]) (r := [40] :: (tk b ++ ([41] :: [[]]))) (by cases o <;> decide)
  have s2 := paren_signed (d := 19) hb pb (t := []) (r := []) (by decide)
  have up : ∀ {k T t r} {ts : List Tx}, lv (rcd 20) k ts = some (T, t :: r) → opAt (3 - k) t = none → lv (rcd 20) (k + 1) ts = some (T, t :: r) := fun {k T t r ts} h1 h2 => by
    rw [lv_succ h1, binLoop_stop h2]
  have eb : [40] :: (tk b ++ ([41] :: [[]])) = ([40] :: (tk b ++ [[41]])) ++ [[]] := by simp
  have go : ∀ {k : Nat}, o.lev = 3 - k → lv (rcd 20) k ([40] :: (tk a ++ ([41] :: [o.sym] :: ([40] :: (tk b ++ ([41] :: [[]])))))) = some (a, [o.sym] :: ([40] :: (tk b ++ ([41] :: [[]])))) → lv (rcd 20) k ([40] :: (tk b ++ ([41] :: [[]]))) = some (b, [[]]) →
      lv (rcd 20) (k + 1) ([40] :: (tk a ++ ([41] :: [o.sym] :: ([40] :: (tk b ++ ([41] :: [[]])))))) = some (.bin o a b, [[]]) := fun {k} hk h1 h2 => by
    rw [lv_succ h1, eb]
    rw [eb] at h2
    have q := bin_step (l := 3 - k) (sub := lv (rcd 20) k) (a := a) (b := b) (o := o) (x := [40] :: (tk b ++ [[41]])) (r := [[]]) (by rw [← hk]; cases o <;> rfl) h2
    rw [q, binLoop_stop (opAt_none (by decide) _)]
  have en : ∀ k, opAt (3 - k) ([] : Tx) = none := fun k => opAt_none (by decide) _
  cases o with
  | join => exact go (k := 2) rfl (up (k := 1) (up (k := 0) s1 rfl) rfl) (up (k := 1) (up (k := 0) s2 rfl) rfl)
  | sum => exact up (k := 2) (go (k := 1) rfl (up (k := 0) s1 rfl) (up (k := 0) s2 rfl)) rfl
  | diff => exact up (k := 2) (go (k := 1) rfl (up (k := 0) s1 rfl) (up (k := 0) s2 rfl)) rfl
  | prod => exact up (k := 2) (up (k := 1) (go (k := 0) rfl s1 s2) rfl) rfl
  | quot => exact up (k := 2) (up (k := 1) (go (k := 0) rfl s1 s2) rfl) rfl
/-- what the law's last text yields, if anything -/
theorem both_is {a b T : Tm} (ha : Ok a) (hb : Ok b) (pa : pd a ≤ 19) (pb : pd b ≤ 19) {o : Bop} (h : parseT (40 :: (fmt a ++ (41 :: 32 :: o.sym :: 32 :: 40 :: (fmt b ++ [41])))) = some T) : T = .bin o a b := by
  unfold parseT at h
  rw [both_parse ha hb pa pb] at h
  split at h
  · cases h
  · have h' : (if ([] : Tx) = [] then (if nodes (.bin o a b) > 60 then none else some (Tm.bin o a b)) else none) = some T := h
    rw [if_pos rfl] at h'
    split at h'
    · cases h'
    · cases h'; rfl
/-- unlike trees have unlike texts -/
theorem fmt_inj {a b : Tm} (ha : Ok a) (hb : Ok b) (h : fmt a = fmt b) : a = b := by
  have p := (g_all a ha (pd a + pd b)).whole (by omega) stop_end []
  have q := (g_all b hb (pd a + pd b)).whole (by omega) stop_end []
  rw [← scan_fmt ha, h, scan_fmt hb, q] at p
  cases p
  rfl
end Rb
set_option maxRecDepth 100000
namespace Rb
open TL (numL)
/-- a term has no more nodes than the tokens it is read from -/
def Nd (f : List Tx → Res Tm) : Prop := ∀ ts T r, f ts = some (T, r) → nodes T + r.length ≤ ts.length
def an : Arg → Nat
  | .sub t => nodes t
  | _ => 0
def asum : List Arg → Nat
  | [] => 0
  | a :: as => an a + asum as
theorem pow_nd : ∀ (m : Nat) (here T : Tm) (ts r : List Tx), ts.length ≤ m → powLoop here ts = some (T, r) → nodes T + r.length ≤ nodes here + ts.length
  | _, _, _, [], _, _, h => by cases h
  | 0, _, _, _ :: _, _, hm, _ => by simp at hm
  | m + 1, here, T, t :: ts, r, hm, h => by
    rcases pow_inv h with ⟨_, rfl, rfl⟩ | ⟨t2, n, ts2, rfl, rfl, e, h2⟩
    · exact Nat.le_refl _
    · have ih := pow_nd m _ _ _ _ (by rw [List.length_cons, List.length_cons] at hm; omega) h2
      have : nodes (.pow here n) = 1 + nodes here := rfl
      rw [List.length_cons, List.length_cons]
      omega
theorem bin_nd {l : Nat} {sub : List Tx → Res Tm} (hs : Nd sub) : ∀ (m : Nat) (here T : Tm) (ts r : List Tx), ts.length ≤ m → binLoop l sub here ts = some (T, r) → nodes T + r.length ≤ nodes here + ts.length
  | _, _, _, [], _, _, h => by rw [binLoop] at h; cases h
  | 0, _, _, _ :: _, _, hm, _ => by simp at hm
  | m + 1, here, T, t :: ts, r, hm, h => by
    rcases bin_inv h with ⟨_, rfl, rfl⟩ | ⟨o, b, ts2, ho, h1, h2, h3⟩
    · exact Nat.le_refl _
    · have ih := bin_nd hs m _ _ _ _ (by rw [List.length_cons] at hm h2; omega) h3
      have h4 := hs _ _ _ h1
      have : nodes (.bin o here b) = 1 + (nodes here + nodes b) := rfl
      rw [List.length_cons]
      omega
theorem numbers_nd {op cl : Tx} (hc : cl ≠ []) {ts r : List Tx} {qs : List Rt} (h : numbers op cl ts = some (qs, r)) : 1 + r.length ≤ ts.length := by
  obtain ⟨ts1, rfl, h1⟩ := numbers_inv h
  have := (nums_eats hc _ _ _ _ _ (Nat.le_refl _) h1).len
  rw [List.length_cons]
  omega
theorem argM_nd {f : List Tx → Res Tm} (hf : Nd f) {w : Tx} {s : Nat} {ts r : List Tx} {a : Arg} (h : argM f w s ts = some (a, r)) : an a + r.length ≤ ts.length := by
  rcases argM_inv h with ⟨_, n, e, rfl⟩ | ⟨_, t, e, rfl⟩ | ⟨_, _, p, e, _, rfl⟩
  · have := (natural_eats e).len
    show 0 + _ ≤ _
    omega
  · exact hf _ _ _ e
  · have := numbers_nd (by decide) e
    show 0 + _ ≤ _
    omega
theorem argsM_nd {f : List Tx → Res Tm} (hf : Nd f) {w : Tx} : ∀ {ss : List Nat} {b : Bool} {ts r : List Tx} {as : List Arg}, argsM f w ss b ts = some (as, r) → asum as + r.length ≤ ts.length
  | [], b, ts, r, as, h => by
    cases h
    show 0 + _ ≤ _
    omega
  | s :: ss, b, ts, r, as, h => by
    obtain ⟨ts1, a, ts2, as', e1, e2, e3, rfl⟩ := argsM_inv h
    have h1 := (comma_eats e1).len
    have h2 := argM_nd hf e2
    have h3 := argsM_nd hf e3
    show an a + asum as' + _ ≤ _
    omega
theorem mk_nd {w : Tx} {as : List Arg} {T : Tm} (h : mk w as = some T) : nodes T = 1 + asum as := by
  unfold mk at h
  repeat' (split at h)
  all_goals first | (cases h; done) | (cases h; simp [nodes, asum, an])
theorem atom_nd {rec : Option (List Tx → Res Tm)} (hr : ∀ f, rec = some f → Nd f) : Nd (atomM rec) := fun ts T r h => by
  rcases atom_inv h with ⟨qs, e, rfl⟩ | ⟨ts1, rfl, e⟩ | ⟨t, ts2, rfl, e, e2⟩ | ⟨t, rfl, e, _, rfl⟩
  · exact numbers_nd (by decide) e
  · obtain ⟨f, e1, e2⟩ := paren_inv e
    have := hr f e1 _ _ _ e2
    simp only [List.length_cons] at this ⊢
    omega
  · obtain ⟨fs, f, as, _, e1, e3, e4⟩ := fun_inv e2
    have h1 := argsM_nd (hr f e1) e3
    have h2 := mk_nd e4
    simp only [List.length_cons] at h1 ⊢
    omega
  · show 1 + _ ≤ _
    rw [List.length_cons]
    omega
theorem minuses_len : ∀ ts : List Tx, ts.length = (minuses ts).1 + (minuses ts).2.length
  | [] => rfl
  | t :: r => by
    by_cases h : t = [45]
    · subst h
      rw [minuses_yes]
      have := minuses_len r
      simp only [List.length_cons]
      omega
    · rw [minuses_not h]
      simp
theorem negs_nd (p : Tm) : ∀ k, nodes (negs k p) = k + nodes p
  | 0 => (Nat.zero_add _).symm
  | k + 1 => by
    show 1 + nodes (negs k p) = _
    rw [negs_nd p k]
    omega
theorem lv_nd {rec : Option (List Tx → Res Tm)} (hr : ∀ f, rec = some f → Nd f) : ∀ k, Nd (lv rec k)
  | 0 => fun ts T r h => by
    obtain ⟨p, e, rfl⟩ := signed_inv h
    obtain ⟨a, r1, e1, e2⟩ := powM_inv e
    have h1 := atom_nd hr _ _ _ e1
    have h2 := pow_nd _ _ _ _ _ (Nat.le_refl _) e2
    rw [negs_nd]
    have := minuses_len ts
    omega
  | k + 1 => fun ts T r h => by
    obtain ⟨a, r1, e1, e2⟩ := lv_inv h
    have ih := lv_nd hr k
    have h1 := ih _ _ _ e1
    have h2 := bin_nd ih _ _ _ _ _ (Nat.le_refl _) e2
    omega
theorem P_nd : ∀ d, Nd (P d)
  | 0 => fun ts T r h => lv_nd (rec := none) (fun f e => by cases e) 3 ts T r h
  | d + 1 => fun ts T r h => lv_nd (rec := some (P d)) (fun f e => by cases e; exact P_nd d) 3 ts T r h
theorem scan_len : ∀ (m : Nat) (t : Tx), t.length ≤ m → (scan t).length ≤ t.length
  | _, [], _ => by rw [scan_nil]; exact Nat.le_refl _
  | 0, _ :: _, h => by simp at h
  | m + 1, c :: r, h => by
    have hr : r.length ≤ m := by simpa using h
    by_cases h1 : isL c = true
    · rw [scan_L h1]
      have e := take_len isL r
      have ih := scan_len m (r.dropWhile isL) (by omega)
      simp only [List.length_cons]
      omega
    · by_cases h2 : isD c = true
      · rw [scan_D h2]
        have e := take_len isD r
        have ih := scan_len m (r.dropWhile isD) (by omega)
        simp only [List.length_cons]
        omega
      · by_cases h3 : c = 32
        · subst h3
          rw [scan_S]
          have ih := scan_len m r hr
          simp only [List.length_cons]
          omega
        · rw [scan_M (by simpa using h1) (by simpa using h2) h3]
          have ih := scan_len m r hr
          simp only [List.length_cons]
          omega
theorem mem_wt : ∀ {ts : List Tx} {u : Tx}, u ∈ ts → u.length ≤ wt ts
  | t :: ts, u, h => by
    show _ ≤ t.length + wt ts
    rcases List.mem_cons.mp h with rfl | h
    · omega
    · have := mem_wt h; omega
theorem tok_len {t u : Tx} (h : u ∈ scan t ++ [[]]) : u.length ≤ t.length := by
  have h1 := mem_wt h
  rw [wt_snoc] at h1
  have := (scan_wf _ t (Nat.le_refl _)).2
  omega
theorem toks_len (t : Tx) : (scan t ++ [[]]).length ≤ t.length + 1 := by
  have := scan_len _ t (Nat.le_refl _)
  simp
  omega
theorem P_nodes {t : Tx} {T : Tm} {r : List Tx} (h : P 20 (scan t ++ [[]]) = some (T, r)) : nodes T ≤ t.length := by
  have h1 := P_nd 20 _ _ _ h
  obtain ⟨l, rfl⟩ := (P_eats 20 _ _ _ h).snt ⟨_, rfl⟩
  have h2 := toks_len t
  rw [List.length_append, List.length_singleton] at h1
  omega
end Rb
set_option maxRecDepth 100000
set_option maxHeartbeats 4000000
namespace RbR
open PySem PySem.Spec PyProof.Rows L2
abbrev St := L2.St
/-! ### texts taken to pieces, times -/
abbrev signs (x : Str) : List V := x.cps.toList.map fun c => V.str ⟨#[c]⟩
theorem vals_signs {x : Str} {acc : Array Value} (h : ItemsOf (SignAt x) acc x.cps.size) : Vals (signs x) acc.toList := by
  obtain ⟨hn, hi⟩ := h
  have key : ∀ (l : List Nat) (us : List Value), us.length = l.length → (∀ (j : Nat) (u : Value), us[j]? = some u → ∃ c t, l[j]? = some c ∧ u = .str ⟨#[c]⟩ t) → Vals (l.map fun c => V.str ⟨#[c]⟩) us := by
    intro l
    induction l with
    | nil =>
      intro us hl _
      cases us with
      | nil => exact .nil
      | cons u us => simp at hl
    | cons c l ih =>
      intro us hl h
      cases us with
      | nil => simp at hl
      | cons u us =>
        obtain ⟨c', t, e1, e2⟩ := h 0 u rfl
        have e1' : c = c' := by simpa using e1
        subst e1'
        exact .cons ⟨t, e2⟩ (ih us (by simpa using hl) fun j u' hj => by simpa using h (j + 1) u' (by simpa using hj))
  refine key _ _ (by simpa using hn) fun j u hj => ?_
  obtain ⟨c, t, e1, e2⟩ := hi j u (by simpa using hj)
  exact ⟨c, t, by simpa using e1, e2⟩
section
variable {X : Cx}
theorem call_list_text (hc : X.calm = true) : CallR X (.type "list") (fun xs H Q => ∃ z : Str, xs = [.str z] ∧ z.cps.size ≤ sizeLine ∧ ∀ l, H l = none → Q (.ref l) (upd H l (.lst (signs z)))) := by
  intro pins s σ H xs us Q I r h
  obtain ⟨z, rfl, hz, q⟩ := h
  obtain ⟨u, rfl, rx⟩ := vals1 r
  obtain ⟨t, rfl⟩ := rx
  refine call_list_str (I.ok.hd hc) z t (fun h' tk acc' c' kp e it => ?_) hz
  have hv := vals_signs it
  exact ⟨.ref s.heap.objs.size, _, I.laid (t' := tk) kp (Nat.le_refl _) (show ObjOk X.prog X.w _ h' _ (.lst (signs z)) from ⟨by simpa using hz, acc'.toList, c', hv, e⟩), rfl, q _ (I.hok.fresh (Nat.le_refl _))⟩
end
/-! ### walks of new pairs -/
theorem turn_ofW {P : Program} {w : World} {K : PySem.W.Frag} {elts : List Expr} {kk : Nat} {tpos : Pos} {J : It} {it : Addr} {fp wr : List Addr} {n : Nat} {S0 : Nat → Heap → Prop}
    (W : ∀ (X : Cx), X.prog = P → X.w = w → X.K = K → ∀ (i : Nat) (pins : List (Addr × Obj)) (s : Shared) (σ : St) (H : Hp), X.A.handled = none → Inv X pins σ H s → (J.go i H ∨ J.stop i H) → S0 i s.heap →
      ∃ (fpW : List Addr) (Pt : Nat → Array Value → Prop) (S : Nat → Heap → Prop) (Mid : Nat → Addr → Heap → Prop), WalksT P w X.A it fpW wr n Pt S Mid ∧ S i s.heap ∧ (∀ j h, S j h → S0 j h) ∧
        (J.go i H → ∀ vals, Pt i vals → ∃ xs, Vals xs vals.toList ∧ xs.length ≤ sizeLine ∧ ∀ T, H T = none → J.yld i H (.ref T) (upd H T (.tup xs))))
    (hwr : ∀ b ∈ wr, b ∈ fp) (mem : it ∈ fp)
    (obj : ∀ i h, S0 i h → ∀ b ∈ fp, ∃ o, h.get? b = some o ∧ ∀ v, o.data ≠ .cell v)
    (keep0 : ∀ i h h', S0 i h → (∀ b ∈ fp, ∀ o, h.get? b = some o → h'.get? b = some o) → S0 i h')
    (go : ∀ i H, J.go i H → i < n)
    (stop : ∀ i H, J.stop i H → n ≤ i)
    (self : ∀ (A : Around) (i : Nat) (s : Shared) (Q : Value → Shared → Prop) (E : Value → Shared → Prop), S0 i s.heap → Q (.ref it) s → wpAny (model P w) A (pyIter (.ref it)) Q E s) :
    Turn P w K (.Tuple elts kk tpos) J fp it (fun i h => i ≤ n ∧ S0 i h) where
  mem := mem
  obj := fun i h st b hb => obj i h st.2 b hb
  keep := fun i h h' st k => ⟨st.1, keep0 i h h' st.2 k⟩
  item := by
    intro X hP hw hK hc i pins s σ H E I hf st hg
    obtain ⟨fpW, Pt, S, Mid, W1, st1, down, yld⟩ := W X hP hw hK i pins s σ H (I.ok.hd hc) I (.inl hg) st.2
    have hin := go i H hg
    refine W1.item i s _ _ hin st1 fun T vals h' tk hPt hT hIs hMid hk => ?_
    obtain ⟨xs, hv, hz, hy⟩ := yld hg vals hPt
    refine ⟨_, rfl, W1.go elts kk tpos i T { s with heap := h', toks := tk } _ _ hMid fun h'' st'' hk' => ?_⟩
    have hTw : T ∉ wr := W1.apart i T h' hMid
    obtain ⟨o, ho, hcl, nn, hd⟩ := hIs
    have new : ObjOk X.prog X.w (upd H T (.tup xs)) h'' T (.tup xs) := ⟨hz, vals.toList, hv, o, hk' T o hTw ho, hcl, nn, by simpa using hd⟩
    have I1 : Inv X pins σ (upd H T (.tup xs)) { s with heap := h'', toks := tk } :=
      I.turnedNew (ch := wr) (fun b ob hb q => hk' b ob hb (hk b ob hb q)) (fun b hb => hf b (hwr b hb)) hT new
    refine ⟨.ref T, _, I1, rfl, hy T (I.hok.fresh hT), ⟨hin, down _ _ st''⟩, fun b hb => ?_⟩
    obtain ⟨ob, eb, _⟩ := obj i s.heap st.2 b hb
    rw [upd_ne (Nat.ne_of_lt (Nat.lt_of_lt_of_le (Heap.lt_size eb) hT))]
    exact (hf b hb).1
  done := by
    intro X hP hw hK hc i pins s σ H E I hf st hg
    obtain ⟨fpW, Pt, S, Mid, W1, st1, down, yld⟩ := W X hP hw hK i pins s σ H (I.ok.hd hc) I (.inr hg) st.2
    have e : i = n := Nat.le_antisymm st.1 (stop i H hg)
    subst e
    exact W1.done s _ _ st1 fun h' tk hk => ⟨rfl, I.turnedL (t' := tk) (ch := wr) hk fun b hb => hf b (hwr b hb)⟩
  self := fun A i s Q E st h => self A i s Q E st.2 h
/-- enumerate(a text) -/
def Ites (x : Str) : It := ⟨fun i _ => i < x.cps.size, fun i H v H' => ∃ T c, v = .ref T ∧ H T = none ∧ H' = upd H T (.tup [.int (i : Nat), .str ⟨#[c]⟩]) ∧ x.cps[i]? = some c, fun i _ => x.cps.size ≤ i⟩
theorem turn_enumT {P : Program} {w : World} {K : PySem.W.Frag} {elts : List Expr} {kk : Nat} {tpos : Pos} {x : Str} {t : Tok} {e it : Addr} (hne : e ≠ it) :
    Turn P w K (.Tuple elts kk tpos) (Ites x) [e, it] e (fun i h => i ≤ x.cps.size ∧ ((∃ old, IsEnum h e it (0 + (i : Int)) old) ∧ h.IsStrIter it (strIterType x) x t i)) := by
  refine turn_ofW (fun X hP hw hK i pins s σ H hh I hg st => ⟨_, _, _, _, WalksT.enumFrom 0 (Draws.text (A := X.A.in1) hh it x t) e hne (by simpa using hne) (by simp), st, fun j h st => st, fun hg vals hp => ?_⟩) (fun b hb => hb) (by simp) ?_ ?_ (fun i H hg => hg) (fun i H hg => hg) ?_
  · obtain ⟨t1, x1, ⟨c, u, hc, rfl⟩, rfl⟩ := hp
    refine ⟨[.int (i : Nat), .str ⟨#[c]⟩], .cons ⟨t1, by simp⟩ (.cons ⟨u, rfl⟩ .nil), by show 2 ≤ sizeLine; decide, fun T hT => ⟨T, c, rfl, hT, rfl, hc⟩⟩
  · intro i h st b hb
    obtain ⟨⟨old, he⟩, ⟨o, ho, hc, hd⟩⟩ := st
    have e' : b = e ∨ b = it := by simpa using hb
    rcases e' with z | z
    · rw [z]; exact ⟨_, he, fun v q => nomatch q⟩
    · rw [z]; exact ⟨o, ho, fun v q => by rw [hd] at q; cases q⟩
  · intro i h h' st k
    obtain ⟨⟨old, he⟩, ⟨o, ho, r⟩⟩ := st
    exact ⟨⟨old, k e (by simp) _ he⟩, ⟨o, k it (by simp) o ho, r⟩⟩
  · intro A i s Q E st h
    obtain ⟨⟨_, he⟩, _⟩ := st
    exact wpAny_pyIter_enum he h
def iEnumT (ta : TA) : TI := fun σ H R => ta σ H fun vs H1 => ∃ x : Str, vs = [.str x] ∧ R (Ites x) H1
theorem pi_enumT {X : Cx} {e : Expr} {ta : TA} {p pos tpos : Pos} {elts : List Expr} {kk : Nat} (hg : Gl X "enumerate") (hm : X.mg "enumerate" = none) (ha : PA X [e] ta) (hs : starEach [e] X.env = [(false, eval e X.env)] := by rfl) :
    PI X (.Tuple elts kk tpos) (.Call (.Name "enumerate" p) [e] [] pos) (iEnumT ta) := by
  refine ⟨fun pins s σ H R I h => ?_⟩
  refine Call_ (ld_blt I hg hm boot_enumerate (PyProof.Rows.callWith_type1 (thn (ha.run pos pins s σ H _ I h) fun us s1 ⟨vs, H1, I1, r1, q1⟩ => ?_) hs rfl))
  obtain ⟨x, ex, q⟩ := q1
  subst ex
  cases r1 with
  | cons r rr =>
    cases rr
    obtain ⟨t, rfl⟩ := r
    refine call_enumerate_str fun h' he hit hsz hk => wpAny_pyIter_enum he ?_
    have I2 : Inv X pins σ H1 { s1 with heap := h' } := I1.kept (t' := s1.toks) hk
    refine ⟨s1.heap.objs.size + 1, [s1.heap.objs.size + 1, s1.heap.objs.size], _, _, H1, rfl, I2, turn_enumT (x := x) (t := t) (e := s1.heap.objs.size + 1) (it := s1.heap.objs.size) (Nat.succ_ne_self _), ⟨Nat.zero_le _, ⟨.none, he⟩, hit⟩, fun b hb => ?_, q⟩
    have e' : b = s1.heap.objs.size + 1 ∨ b = s1.heap.objs.size := by simpa using hb
    have hle : s1.heap.objs.size ≤ b := by
      rcases e' with z | z
      · rw [z]; exact Nat.le_add_right _ _
      · rw [z]; exact Nat.le_refl _
    exact I1.fpOk hle (I1.hok.fresh hle)
/-- zip(a list, a text) -/
def Itzs (K : PySem.W.Frag) (a : Addr) (xs : List V) (x : Str) : It :=
  ⟨fun i H => SqL K H a xs ∧ i < xs.length ∧ i < x.cps.size, fun i H v H' => ∃ T y c, v = .ref T ∧ H T = none ∧ H' = upd H T (.tup [y, .str ⟨#[c]⟩]) ∧ xs[i]? = some y ∧ x.cps[i]? = some c, fun i H => SqL K H a xs ∧ (xs.length ≤ i ∨ x.cps.size ≤ i)⟩
theorem turn_zipS {P : Program} {w : World} {K : PySem.W.Frag} {elts : List Expr} {kk : Nat} {tpos : Pos} {a z TI TO i1 i2 : Addr} {xs : List V} {x : Str} {t : Tok} (D1 : ZipSep2 z TI TO i1 i2 [i1, a] [i2]) (hne : a ≠ i1) :
    Turn P w K (.Tuple elts kk tpos) (Itzs K a xs x) [z, TI, TO, i1, i2] z (fun i h => i ≤ min xs.length x.cps.size ∧ (IsZip h z TI TO .none ∧ IsTupOf2 h TI (.ref i1) (.ref i2) ∧ (∃ a1 a2, IsTupOf2 h TO a1 a2) ∧ h.IsListIter i1 a i ∧ h.IsStrIter i2 (strIterType x) x t i)) := by
  refine turn_ofW (wr := [z, TO, i1, i2]) (fun X hP hw hK i pins s σ H hh I hg st => ?_) (fun b hb => by
    have e' : b = z ∨ b = TO ∨ b = i1 ∨ b = i2 := by simpa using hb
    rcases e' with q | q | q | q <;> simp [q]) (by simp) ?_ ?_ (fun i H hg => by obtain ⟨_, h1, h2⟩ := hg; omega) (fun i H hg => by obtain ⟨_, h1⟩ := hg; omega) ?_
  · subst hP hw hK
    have hq : SqL X.K H a xs := by
      rcases hg with g | g
      · exact g.1
      · exact g.1
    obtain ⟨its, rv, p, hz⟩ := I.list hq
    have hlen := rv.length
    obtain ⟨hzz, hTI, hTO, h1, h2⟩ := st
    have e : min its.toArray.size x.cps.size = min xs.length x.cps.size := by rw [List.size_toArray, hlen]
    rw [← e]
    refine ⟨_, _, _, _, WalksT.zipD2 D1 (Draws.list (A := X.A.in1) hh i1 a hne its.toArray) (Draws.text (A := X.A.in1) hh i2 x t), ⟨hzz, hTI, hTO, ⟨h1, p.isList⟩, h2⟩, fun j h st => ⟨st.1, st.2.1, st.2.2.1, st.2.2.2.1.1, st.2.2.2.2⟩, fun hg vals hp => ?_⟩
    obtain ⟨x1, x2, e1, ⟨c, u, hc, rfl⟩, rfl⟩ := hp
    obtain ⟨y, hy⟩ : ∃ y, xs[i]? = some y := ⟨xs[i]'hg.2.1, List.getElem?_eq_getElem hg.2.1⟩
    obtain ⟨u1, hu1, ru1⟩ := rv.get hy
    have e2 : u1 = x1 := by
      have q : its[i]? = some x1 := by simpa using e1
      rw [hu1] at q
      exact Option.some.inj q
    subst e2
    exact ⟨[y, .str ⟨#[c]⟩], .cons ru1 (.cons ⟨u, rfl⟩ .nil), by show 2 ≤ sizeLine; decide, fun T hT => ⟨T, y, c, rfl, hT, rfl, hy, hc⟩⟩
  · intro i h st c hc
    obtain ⟨hz, hTI, ⟨x0, y0, hTO⟩, ⟨o1, e1, _, d1⟩, ⟨o2, e2, _, d2⟩⟩ := st
    have e' : c = z ∨ c = TI ∨ c = TO ∨ c = i1 ∨ c = i2 := by simpa using hc
    rcases e' with q | q | q | q | q
    · rw [q]; exact ⟨_, hz, fun v q => nomatch q⟩
    · rw [q]; exact ⟨_, hTI, fun v q => nomatch q⟩
    · rw [q]; exact ⟨_, hTO, fun v q => nomatch q⟩
    · rw [q]; exact ⟨o1, e1, fun v q => by rw [d1] at q; cases q⟩
    · rw [q]; exact ⟨o2, e2, fun v q => by rw [d2] at q; cases q⟩
  · intro i h h' st k
    obtain ⟨hz, hTI, ⟨x0, y0, hTO⟩, h1, ⟨o2, e2, r2⟩⟩ := st
    exact ⟨k z (by simp) _ hz, k TI (by simp) _ hTI, ⟨x0, y0, k TO (by simp) _ hTO⟩, h1.at fun o q => k i1 (by simp) o q, ⟨o2, k i2 (by simp) o2 e2, r2⟩⟩
  · intro A i s Q E st h
    exact wpAny_pyIter_zip st.1 h
theorem sep_new (n a : Addr) (h : a < n) : ZipSep2 (n + 4) (n + 2) (n + 3) n (n + 1) [n, a] [n + 1] := by
  have ne : ∀ i j : Nat, i ≠ j → (n + i : Nat) ≠ n + j := fun i j q e => q (Nat.add_left_cancel e)
  have ne0 : ∀ i : Nat, i ≠ 0 → (n + i : Nat) ≠ n := fun i q e => q (Nat.add_left_cancel (k := 0) e)
  have nea : ∀ i : Nat, (n + i : Nat) ≠ a := fun i => Nat.ne_of_gt (Nat.lt_of_lt_of_le h (Nat.le_add_right n i))
  have m1 : ∀ i j : Nat, i ≠ j → (n + i : Nat) ∉ [n + j] := fun i j q hm => ne i j q (List.mem_singleton.mp hm)
  have m2 : ∀ i : Nat, i ≠ 0 → (n + i : Nat) ∉ [n, a] := fun i q hm => by
    rcases List.mem_cons.mp hm with e | e
    · exact ne0 i q e
    · exact nea i (List.mem_singleton.mp e)
  exact ⟨ne 2 4 (by decide), ne 3 4 (by decide), ne 2 3 (by decide), ne0 2 (by decide), List.mem_cons_self, m2 4 (by decide), m2 3 (by decide), ne 2 1 (by decide), List.mem_singleton.mpr rfl, m1 4 1 (by decide), m1 3 1 (by decide), m1 0 1 (by decide), m2 1 (by decide)⟩
def iZipS (K : PySem.W.Frag) (ta : TA) : TI := fun σ H R => ta σ H fun vs H1 => ∃ (a : Addr) (xs : List V) (x : Str), vs = [.ref a, .str x] ∧ SqL K H1 a xs ∧ R (Itzs K a xs x) H1
theorem pi_zipS {X : Cx} {e e2 : Expr} {ta : TA} {p pos tpos : Pos} {elts : List Expr} {kk : Nat} (hg : Gl X "zip") (hm : X.mg "zip" = none) (ha : PA X [e, e2] ta)
    (hs : starEach [e, e2] X.env = (false, eval e X.env) :: starEach [e2] X.env := by rfl) (hpl : (backTo pos (starEach [e2] X.env)).any (·.1) = false := by rfl) :
    PI X (.Tuple elts kk tpos) (.Call (.Name "zip" p) [e, e2] [] pos) (iZipS X.K ta) := by
  refine ⟨fun pins s σ H R I h => ?_⟩
  refine Call_ (ld_blt I hg hm PyProof.Rows.boot_zip (PyProof.Rows.callWith_type1 (thn (ha.run pos pins s σ H _ I h) fun us s1 ⟨vs, H1, I1, r1, q1⟩ => ?_) hs hpl))
  obtain ⟨a, xs, x, ex, hq, q⟩ := q1
  subst ex
  obtain ⟨u1, u2, rfl, ra, t, rfl⟩ := vals2 r1
  have ra' : u1 = .ref a := ra
  subst ra'
  obtain ⟨its, rv, p', hz⟩ := I1.list hq
  have hal : a < s1.heap.objs.size := by
    obtain ⟨o, ho, _⟩ := p'.isList
    exact Heap.lt_size ho
  refine zip_begins2 (begins_list a its.toArray) (begins_text x t) p'.isList trivial fun h' hz hTI hTO e1 e2 hsz hk => wpAny_pyIter_zip hz ?_
  have I2 : Inv X pins σ H1 { s1 with heap := h' } := I1.kept (t' := s1.toks) hk
  refine ⟨s1.heap.objs.size + 4, [s1.heap.objs.size + 4, s1.heap.objs.size + 2, s1.heap.objs.size + 3, s1.heap.objs.size, s1.heap.objs.size + 1], _, _, H1, rfl, I2,
    turn_zipS (x := x) (t := t) (xs := xs) (a := a) (z := s1.heap.objs.size + 4) (TI := s1.heap.objs.size + 2) (TO := s1.heap.objs.size + 3) (i1 := s1.heap.objs.size) (i2 := s1.heap.objs.size + 1)
      (sep_new _ _ hal) (Nat.ne_of_lt hal), ⟨Nat.zero_le _, hz, hTI, ⟨_, _, hTO⟩, ⟨_, e1, rfl, rfl⟩, ⟨_, e2, rfl, rfl⟩⟩, fun b hb => ?_, q⟩
  have hle : s1.heap.objs.size ≤ b := by
    have e' : b = s1.heap.objs.size + 4 ∨ b = s1.heap.objs.size + 2 ∨ b = s1.heap.objs.size + 3 ∨ b = s1.heap.objs.size ∨ b = s1.heap.objs.size + 1 := by simpa using hb
    rcases e' with q | q | q | q | q
    · rw [q]; exact Nat.le_add_right _ _
    · rw [q]; exact Nat.le_add_right _ _
    · rw [q]; exact Nat.le_add_right _ _
    · rw [q]; exact Nat.le_refl _
    · rw [q]; exact Nat.le_add_right _ _
  exact I1.fpOk hle (I1.hok.fresh hle)
end RbR
set_option maxRecDepth 100000
set_option maxHeartbeats 4000000
namespace RbR
open PySem PySem.Spec PyProof.Rows L2
/-! ### a text times a small number -/
section
variable {X : Cx}
theorem foldl_rep1 (c : Array Nat) : ∀ (n : Nat) (acc : Array Nat), ((List.replicate n c).foldl (· ++ ·) acc).toList = acc.toList ++ (List.replicate n c.toList).flatten
  | 0, acc => by simp
  | n + 1, acc => by
    rw [List.replicate_succ, List.foldl_cons, foldl_rep1 c n (acc ++ c), List.replicate_succ]
    simp [List.append_assoc]
/-- 'q' * n for a small n -/
theorem op_mul_sign : OpR X (binaryOp .Mult) (fun x y H Q => ∃ (c n : Nat), x = .str ⟨#[c]⟩ ∧ y = .int n ∧ n ≤ 100 ∧ Q (.str ⟨(List.replicate n c).toArray⟩) H) := by
  intro pins s σ H x y v u Q I rx ry h
  obtain ⟨c, n, rfl, rfl, hn, q⟩ := h
  obtain ⟨t, rfl⟩ := rx
  obtain ⟨t', rfl⟩ := ry
  have e1 : ∀ m : Nat, (⟨(List.replicate m c).toArray⟩ : Str) = ⟨(List.replicate m (#[c] : Array Nat)).foldl (· ++ ·) #[]⟩ := fun m => by
    have e := foldl_rep1 #[c] m #[]
    have e2 : (List.replicate m ([c] : List Nat)).flatten = List.replicate m c := by
      induction m with
      | zero => rfl
      | succ m ih =>
        have ih' := ih (foldl_rep1 #[c] m #[])
        rw [List.replicate_succ, List.flatten_cons, ih', List.replicate_succ]; rfl
    have e3 : ((List.replicate m (#[c] : Array Nat)).foldl (· ++ ·) #[]).toList = List.replicate m c := by
      rw [e]; simpa using e2
    rw [← e3]
  refine PySem.P.mul_str (by
    rw [decide_eq_false (by omega), decide_eq_false (by omega)]; rfl) (fun h1 h2 => ?_) (fun h1 h2 => ?_) ?_
  · have e : ((⟨#[c]⟩ : Str).length : Int) = 1 := rfl
    rw [e]
    have : (1 : Int) ≤ (2 ^ 63 - 1) / (n : Int) := by
      have hp : (0 : Int) < n := by omega
      rw [Int.le_ediv_iff_mul_le hp]
      omega
    omega
  · have e : (⟨#[c]⟩ : Str).length = 1 := rfl
    rw [e]
    have hs : (100 : Nat) ≤ sizeLine := by decide
    exact decide_eq_false (by simp; omega)
  · split
    · have e0 : n = 0 := by omega
      subst e0
      exact ⟨by decide, .str ⟨#[]⟩, H, I.tok _, ⟨_, rfl⟩, q⟩
    · split
      · rename_i h1 h2
        have e0 : n = 1 := by
          have h3 : ((⟨#[c]⟩ : Str).length == 0) = false := rfl
          rw [h3, Bool.or_false] at h2
          have := eq_of_beq h2
          omega
        subst e0
        exact ⟨.str ⟨#[c]⟩, H, I, ⟨_, rfl⟩, q⟩
      · have e4 := e1 n
        have hl : (⟨(List.replicate n (#[c] : Array Nat)).foldl (· ++ ·) #[]⟩ : Str).length ≤ sizeLine := by
          rw [← e4]
          show (List.replicate n c).toArray.size ≤ sizeLine
          have hs : (100 : Nat) ≤ sizeLine := by decide
          simp
          omega
        refine ⟨hl, .str _, H, I.tok _, ⟨_, rfl⟩, ?_⟩
        simp only [Int.toNat_natCast]
        rw [← e4]
        exact q
end
/-! ### a written dict with text keys -/
/-- the keys at d, in order -/
def DKeys (K : PySem.W.Frag) (w : World) (d : Addr) (ks : List Str) : Prop :=
  ∃ es n, K.lookup d = some ⟨.type "dict", none, .dict es n, #[]⟩ ∧ PySem.W.KeysLit w.params es.toList ∧ (d == sysModules) = false ∧ es.size = ks.length ∧
    ∀ (i : Nat) (k : Str), ks[i]? = some k → ∃ (en : DictEntry) (t : Tok), es[i]? = some en ∧ en.key = .str k t
def Itwk (ks : List Str) : It := ⟨fun i _ => i < ks.length, fun i H v H' => H' = H ∧ ∃ k, ks[i]? = some k ∧ v = .str k, fun i _ => ks.length ≤ i⟩
theorem turn_wkeys {P : Program} {w : World} {K : PySem.W.Frag} {tg : Expr} {d it : Addr} {ks : List Str} {es : Array DictEntry} {n : Nat} (hl : List.lookup d K = some ⟨.type "dict", none, .dict es n, #[]⟩) (hsz : es.size = ks.length)
    (hk : ∀ (i : Nat) (k : Str), ks[i]? = some k → ∃ (en : DictEntry) (t : Tok), es[i]? = some en ∧ en.key = .str k t) :
    Turn P w K tg (Itwk ks) [it] it (fun i h => h.IsKeyIter it d i ks.length n) where
  mem := by simp
  obj := fun i h st b hb => by
    have e : b = it := by simpa using hb
    subst e
    obtain ⟨oi, e, c, dd⟩ := st
    exact ⟨oi, e, fun v z => by rw [dd] at z; cases z⟩
  keep := fun i h h' st k => st.at fun oi e => k it (by simp) oi e
  item := by
    intro X hP hw hK hc i pins s σ H E I hf st hg
    subst hP hw hK
    obtain ⟨f0, f1, f2, f3, f4, f5⟩ := hf it (by simp)
    have hg' : i < ks.length := hg
    obtain ⟨k, hki⟩ : ∃ k, ks[i]? = some k := ⟨ks[i], List.getElem?_eq_getElem hg'⟩
    obtain ⟨en, t, he, ek⟩ := hk i k hki
    refine next_key_item st (I.kIn _ _ hl) rfl hsz he fun h' st' sb => ?_
    have I1 : Inv X pins σ H { s with heap := h' } := I.turned (t' := s.toks) (fun b ob hb e => (sb.2 b hb).trans e) f0 f1 f3 f4 f5
    obtain ⟨oi, e, c, dd⟩ := id st'
    exact ⟨en.key, rfl, go_of (s := { s with heap := h' }) e c dd (by decide) ⟨.str k, H, I1, ⟨t, ek⟩, ⟨rfl, k, hki, rfl⟩, st', fun b hb => (hf b hb).1⟩⟩
  done := by
    intro X hP hw hK hc i pins s σ H E I hf st hg
    subst hP hw hK
    obtain ⟨f0, f1, f2, f3, f4, f5⟩ := hf it (by simp)
    exact next_key_end (I.ok.hd hc) st (I.kIn _ _ hl) rfl hsz hg fun h' eb => ⟨rfl, I.turned (t' := s.toks) (fun b o hb e => eb b o hb e) f0 f1 f3 f4 f5⟩
  self := fun A i s Q E st h => wpAny_pyIter_keyiter st h
def iWkeys (K : PySem.W.Frag) (w : World) (te : TE) : TI := fun σ H R => te σ H fun v H1 => ∃ (d : Addr) (ks : List Str), v = .ref d ∧ DKeys K w d ks ∧ R (Itwk ks) H1
theorem pi_wkeys {X : Cx} {tg e : Expr} {te : TE} (he : PE X e te) : PI X tg e (iWkeys X.K X.w te) := by
  refine ⟨fun pins s σ H R I h => ?_⟩
  refine thn (he.run pins s σ H _ I h) fun u s1 ⟨x, H1, I1, rx, d, ks, ex, dk, q⟩ => ?_
  subst ex
  obtain rfl : u = Value.ref d := rx
  obtain ⟨es, n, hl, hlit, hs, hsz, hk⟩ := dk
  refine iter_keys hs (I1.kIn _ _ hl) ⟨rfl, rfl, rfl⟩ rfl (pi_one (tk := s1.toks) I1 _ (turn_wkeys hl hsz hk) ⟨_, Heap.get?_push_size _ rfl, rfl, ?_⟩ q)
  rw [hsz] <;> rfl
section
variable {X : Cx} {o e f : Expr} {td ty tx : TE} {apos cpos : Pos}
/-- d.get(k, x) of a written dict -/
theorem pe_wget (ho : PE X o td) (he : PE X e ty) (hf : PE X f tx) (m : M2 X o "get" apos e f cpos) : PE X (.Call (.Attribute o "get" apos) [e, f] [] cpos)
    (fun σ H Q => td σ H fun a H1 => ∃ d es n, a = .ref d ∧ KDict X.K X.w d es n ∧ ty σ H1 fun y H2 => tx σ H2 fun dv H3 => ∃ z r v, y = .str z ∧ PySem.W.nsIn X.K d z = some r ∧ ((r = none ∧ v = dv) ∨ ∃ u, r = some u ∧ RelV v u) ∧ Q v H3) := by
  refine ⟨fun pins s σ H Q I h => ?_⟩
  refine wpAny_Call_method m.base m.few m.line PySem.F.plainAttrs_dict PySem.F.slot_dict_get PySem.F.type_dict_get (thn (ho.run pins s σ H _ I h) fun u s1 ⟨x, H1, I1, rx, a, es, n, ex, d, q1⟩ => ?_)
  subst ex
  obtain rfl : u = Value.ref a := rx
  have hm := PySem.W.mapOf_K (prog := X.prog) (w := X.w) I1.kIn d.at_ d.lit
  refine ⟨hm.typeIs, hm.noDict, ?_⟩
  rw [m.trees]
  refine Calls.callWith_builtin rfl (Calls.evalArgs_plain (Calls.spliced_cons (thn (he.run pins s1 σ H1 _ I1 q1) fun iv s2 ⟨y, H2, I2, ry, q2⟩ =>
    Calls.spliced_cons (thn (hf.run pins s2 σ H2 _ I2 q2) fun fv s3 ⟨z, H3, I3, rz, zs, r, v, ey, hn, hv, q3⟩ => Calls.spliced_nil ?_))))
  subst ey
  obtain ⟨t, rfl⟩ := ry
  have hm3 := PySem.W.mapOf_K (prog := X.prog) (w := X.w) I3.kIn d.at_ d.lit
  refine call_meetsIn PySem.F.slot_dict_get hm3.typeIs PySem.F.entry_dict_get (PySem.F.args_dict_get_3 _ _ _) (meets_dict_get_default (strKind X.prog X.w) a (strKind_is X.prog X.w zs t) d.low fv) ⟨_, hm3, ?_⟩
  rw [PySem.W.find_K d.at_ hn]
  rcases hv with ⟨rfl, rfl⟩ | ⟨u, rfl, ru⟩
  · exact ⟨v, H3, I3.tok _, rz, q3⟩
  · exact ⟨v, H3, I3.tok _, ru, q3⟩
/-- C.m(e, ..) where m is a def of the class's body -/
theorem pe_cfn {CX : CXT} {k : Nat} {C g : Addr} {mc : Value} {fd : FuncData} {ps : List Str} {sp : Sp} {E : XK} {o e : Expr} {es : List Expr} {m : Str} {pos apos : Pos} {ta : TE} {t : TA} {pl : Sem Bool} (he : PE X o ta) (r : ClX.CRead X.K C mc) (c : PySem.W.findCls X.K (.ref C) mc m = some (.val (.ref g)))
    (F : FnOk X.prog X.w X.K X.mg X.base CX k g fd ps sp) (hr : Room k X.A) (hk : PySem.W.keepIn X.K (.ref g) = true) (hb : Binds X.K fd ps []) (hx : Passes CX X E) (ha : PA X (e :: es) t)
    (hst : starEach (e :: es) X.env = (false, eval e X.env) :: starEach es X.env := by rfl) (hpl : (backTo pos (starEach es X.env)).any (·.1) = false := by rfl)
    (ht : eval (.Call (.Attribute o m apos) (e :: es) [] pos) X.env = (do
      let ov ← eval o X.env
      standAt apos.atName
      let (f, first) ← holding [ov] (getMethod ov m pl)
      callWith pos f first (backTo pos (starEach (e :: es) X.env)) (backToKw pos (keywordEach [] X.env))) := by rfl) :
    PE X (.Call (.Attribute o m apos) (e :: es) [] pos) (fun σ H Q => ta σ H fun x H1 => x = .ref C ∧ t σ H1 fun vs H2 => sp vs H2 Q E) := by
  refine ⟨fun pins s σ H Q I h => ?_⟩
  refine PySem.W.methodCall_KW (pl := pl) (thn (he.run pins s σ H _ I h) fun u s1 ⟨x, H1, I1, rx, ex, q⟩ => ?_) ht
  subst ex
  obtain rfl : u = Value.ref C := rx
  refine PySem.W.method_cls I1.kIn r.ga (ClX.getcval_ok (v := .ref g) I1 r ⟨c, rfl⟩ fun s2 I2 => ?_)
  refine PySem.W.callWith_K (h₀ := X.base) I2.ok.mod.kin hk (thn (ha.run pos pins s2 σ H1 _ I2 q) fun us s3 ⟨vs, H2, I3, rv, q2⟩ => ⟨I3.kIn, ?_⟩) hst hpl
  have q3 : sp (vs ++ []) H2 Q E := by rw [List.append_nil]; exact q2
  exact run_fn F hr hb .nil hx I3 rv q3
end
/-! ### word, *rest = a tuple -/
theorem star_T {prog : Program} {w : World} {A : Around} {E : Value → Shared → Prop} {s : Shared} {l : Addr} {items : Array Value} {Q : List Value → Shared → Prop} (hl : IsTup s.heap l items) (hh : A.handled = none) (hn : 1 ≤ items.size) (hz : items.size ≤ 1000)
    (h : ∀ (h' : Heap) (tk : Nat), (∀ b o, s.heap.get? b = some o → h'.get? b = some o) →
      Q (items.toList.take 1 ++ [.ref h'.objs.size]) { s with heap := h'.push { cls := .type "list", data := .seq (items.toList.drop 1).toArray }, toks := tk }) : wpAny (model prog w) A (unpackItems (.ref l) 2 (some 1)) Q E s := by
  have hlt : l ≠ s.heap.objs.size := by obtain ⟨o, ho, _⟩ := hl; exact Nat.ne_of_lt (Heap.lt_size ho)
  have hll : l < s.heap.objs.size := by obtain ⟨o, ho, _⟩ := hl; exact Heap.lt_size ho
  unfold unpackItems
  refine wpAny_bind ?_
  unfold notIterableAtAll
  refine wpAny_bind (wpAny_specialOf hl.typeIs slot_tuple_iter.lookup ?_)
  refine wpAny_pure ?_
  simp only [Bool.false_eq_true, if_false]
  refine wpAny_bind (wpAny_holding (iter_tuple hl ?_))
  refine wpAny_bind (wpAny_holding (draw_tuple hlt 1 0 _ _ ⟨_, Heap.get?_push_size _ rfl, rfl, rfl⟩ (hl.push _) (by omega) fun h₁ hit₁ hs₁ => ?_))
  have hl₁ : IsTup h₁ l items := (hl.push _).extBut hs₁.extBut hlt
  rw [Nat.zero_add] at hit₁
  have hit₁' := hit₁
  obtain ⟨oi, hoi, _⟩ := hit₁'
  have hl₁' := hl₁
  obtain ⟨ol, hol, _⟩ := hl₁'
  rw [List.drop_zero]
  have hfl : (items.toList.take 1).length = 1 := by rw [List.length_take, Array.length_toList]; omega
  rw [if_neg (show ¬ ((items.toList.take 1).length < 1) by rw [hfl]; omega)]
  have hsz₁ : h₁.objs.size = s.heap.objs.size + 1 := by rw [hs₁.1, Heap.size_push]
  refine wpAny_bind (wpAny_holding (PySem.W.kun_collect (s := { s with heap := h₁ }) (T := "tuple_iterator") (.inr (.inr (.inr rfl))) (Walks.tuple (A := A.in1) hh s.heap.objs.size l hlt items) (fun j u st => st.1.typeIs) (k := 1) (by omega) ⟨hit₁, hl₁⟩ (Heap.lt_size hoi) (Heap.lt_size hol) (fun h₂ tk hk => ?_) (by rw [sizeLine_eq]; omega)))
  have hrl : (items.toList.drop 1).length = items.size - 1 := by rw [List.length_drop, Array.length_toList]
  show wpAny _ _ (if (items.toList.drop 1).length < 2 - 1 - 1 then _ else _) _ _ _
  rw [if_neg (by omega)]
  show wpAny _ _ (newList ((items.toList.drop 1).take ((items.toList.drop 1).length - (2 - 1 - 1))) >>= fun d => pure (items.toList.take 1 ++ [d] ++ (items.toList.drop 1).drop ((items.toList.drop 1).length - (2 - 1 - 1)))) _ _ _
  have e1 : (items.toList.drop 1).take ((items.toList.drop 1).length - (2 - 1 - 1)) = items.toList.drop 1 := List.take_of_length_le (by omega)
  have e2 : (items.toList.drop 1).drop ((items.toList.drop 1).length - (2 - 1 - 1)) = [] := List.drop_of_length_le (by omega)
  rw [e1, e2]
  have he : Heap.ExtBut s.heap.objs.size s.heap h₂ := fun b o hb e => hk b o hb (hs₁.extBut b o hb (Heap.get?_push_of_some _ e))
  have he' : ∀ b o, s.heap.get? b = some o → h₂.get? b = some o := fun b o e => he b o (Nat.ne_of_lt (Heap.lt_size e)) e
  refine wpAny_bind (wpAny_newList (s := { s with heap := h₂, toks := tk }) (wpAny_pure ?_) (by rw [hrl, sizeLine_eq]; omega))
  rw [List.append_nil]
  exact h h₂ tk he'
section
variable {X : Cx} {pos : Pos}
/-- word, *rest = a tuple -/
def gStar (K : PySem.W.Frag) (t u : TG) : TG := fun v σ H Q => ∃ a x xs, v = .ref a ∧ SqT K H a (x :: xs) ∧ xs.length ≤ 900 ∧ ∀ p, H p = none → t x σ (upd H p (.lst xs)) fun σ1 H1 => u (.ref p) σ1 H1 Q
theorem pg_star {e1 e2 : Expr} {k k2 : Nat} {pos2 : Pos} {t u : TG} (hc : X.calm = true) (h1 : PG X e1 t) (h2 : PG X e2 u)
    (hn : (assignEach [e1, .Starred e2 pos2] X.env).length = 2 := by rfl) (hst : (assignEach [e1, .Starred e2 pos2] X.env).findIdx? (·.1) = some 1 := by rfl)
    (hs : (assignEach [e1, .Starred e2 pos2] X.env).map (·.2) = [assign e1 X.env, assign e2 X.env] := by rfl) : PG X (.Tuple [e1, .Starred e2 pos2] k pos) (gStar X.K t u) := by
  refine ⟨fun pins s σ H v w Q I r hw => ?_⟩
  obtain ⟨a, x, xs, e, hq, hl, hw⟩ := hw
  subst e
  obtain rfl : w = Value.ref a := r
  obtain ⟨its, rv, ht, hz⟩ := I.tuple hq
  rw [assign_Tuple]
  refine wpAny_bind (wpAny_standAt ?_)
  unfold unpack
  rw [hn, hst]
  have hlen := rv.length
  cases rv with
  | @cons _ u0 _ us0 r0 rr =>
    refine wpAny_bind (wpAny_holding (star_T ht (I.ok.hd hc) (by simp) (by simp at hlen ⊢; omega) fun h' tk kp => ?_))
    have I1 : Inv X pins σ H { s with heap := h', toks := tk } := I.kept kp
    have I2 : Inv X pins σ (upd H h'.objs.size (.lst xs)) { s with heap := h'.push { cls := .type "list", data := .seq us0.toArray }, toks := tk } :=
      I1.laid (a := h'.objs.size) (h' := h'.push { cls := .type "list", data := .seq us0.toArray }) (t' := tk) (fun b o e => Heap.get?_push_of_some _ e) (Nat.le_refl _)
        ⟨by rw [sizeLine_eq]; omega, us0, 0, rr, Heap.get?_push_size _ rfl⟩
    have q := hw h'.objs.size (I1.hok.fresh (Nat.le_refl _))
    show wpAny _ _ (assignInOrder ((assignEach [e1, .Starred e2 pos2] X.env).map (·.2)) [u0, .ref h'.objs.size]) _ _ _
    rw [hs]
    refine assignInOrder_cons (thn (h1.run pins _ σ _ _ _ _ I2 r0 q) fun _ s1 ⟨σ1, H1, I3, q1⟩ => ?_)
    refine assignInOrder_cons (thn (h2.run pins s1 σ1 H1 (.ref h'.objs.size) (.ref h'.objs.size) _ I3 rfl q1) fun _ s2 ⟨σ2, H2, I4, q2⟩ => ?_)
    exact assignInOrder_nil ⟨σ2, H2, I4, q2⟩
/-! ### a tuple and () -/
def rEqT0 (K : PySem.W.Frag) (neg : Bool) : R2 := fun x y H Q => ∃ a b xs, x = .ref a ∧ y = .ref b ∧ SqT K H a xs ∧ SqT K H b [] ∧ Q (.bl (if neg then !xs.isEmpty else xs.isEmpty)) H
theorem op_eqT0 (hu : X.A.units < cLine) : OpR X (compareOp .Eq) (rEqT0 X.K false) := by
  intro pins s σ H x y v u Q I rx ry h
  obtain ⟨a, b, xs, rfl, rfl, ha, hb, q⟩ := h
  obtain rfl : v = Value.ref a := rx
  obtain rfl : u = Value.ref b := ry
  obtain ⟨its, rv, ht, hz⟩ := I.tuple ha
  obtain ⟨its2, rv2, ht2, hz2⟩ := I.tuple hb
  cases rv2
  refine SeqAt.RcAt.tuples (e := fun _ => true) ht ht2 hu (fun j h1 h2 => by simp at h2) X.prog X.w _ _ (fin_bl I q ?_)
  have hl := rv.length
  cases xs <;> cases its <;> simp_all
theorem op_neT0 (hu : X.A.units < cLine) : OpR X (compareOp .NotEq) (rEqT0 X.K true) := by
  intro pins s σ H x y v u Q I rx ry h
  obtain ⟨a, b, xs, rfl, rfl, ha, hb, q⟩ := h
  obtain rfl : v = Value.ref a := rx
  obtain rfl : u = Value.ref b := ry
  obtain ⟨its, rv, ht, hz⟩ := I.tuple ha
  obtain ⟨its2, rv2, ht2, hz2⟩ := I.tuple hb
  cases rv2
  refine SeqAt.RcNeAt.tuples (e := fun _ => true) ht ht2 hu (fun j h1 h2 => by simp at h2) X.prog X.w _ _ (fin_bl I q ?_)
  have hl := rv.length
  cases xs <;> cases its <;> simp_all
end
end RbR
set_option maxRecDepth 100000
set_option maxHeartbeats 4000000
namespace RbR
open PySem PySem.Spec PyProof.Rows L2
/-! ### a comprehension whose element may raise out of a call -/
section
variable {X : Cx} {pins : List (Addr × Obj)} {σ : St} {H : Hp} {s s' : Shared} {W : WX} {E : XK}
theorem of_held (I : Inv X pins σ H s) {a : Addr} {B : Heap} {H' : Hp} {cls : Value} {d : Option Addr} (fl : HandSPX.HeldZ B X.stack a (Zc cls d) X.env.locals s'.heap) (hok : HOk X.prog X.w H' B) (ub : UB (frs X.stack) H H' s.heap B s'.heap) (na : H' a = none) (os : s'.os = s.os) (ag : AllBare s'.gens) (hE : W cls d σ H') : XE X W (.ref a) s' := by
  obtain ⟨G, g1, g2⟩ := restrict s'.heap fun b => (B.get? b).isSome || decide (b ∈ frs X.stack)
  have st : B.StaysIn s'.heap := fl.1
  have gB : ∀ b o, B.get? b = some o → G.get? b = some o := fun b o e => by
    rw [g1 b (by simp [e])]
    exact st b o e
  have gF : ∀ b, b ∈ frs X.stack → G.get? b = s'.heap.get? b := fun b hb => g1 b (by simp [hb])
  have og : ∀ b o, G.get? b = some o → s'.heap.get? b = some o ∧ ((B.get? b).isSome = true ∨ b ∈ frs X.stack) := fun b o e => by
    cases q : ((B.get? b).isSome || decide (b ∈ frs X.stack)) with
    | false => rw [g2 b q] at e; cases e
    | true =>
      rw [g1 b q] at e
      exact ⟨e, by simpa [Bool.or_eq_true] using q⟩
  refine ⟨a, B, { s with heap := G, gens := s'.gens, drawn := s'.drawn, toks := s'.toks }, pins, σ, H', cls, d, rfl, ?_, fun b o e hb => ?_, Heap.UpToSlots.of_keeps fun b o e => (og b o e).1, .inr (.inr fl), na, os, ag, hE⟩
  · refine I.call (ch := []) ⟨fun b o e n hb _ => gB b o (ub.keep b o e n hb), fun b o e n hb _ => ?_, fun b o e n _ => ub.free b o e n, fun b o e _ => ?_, ub.tups, ub.frzs, ub.tbls⟩ (hok.kept gB) ag (fun _ z => nomatch z)
    · obtain ⟨sl, q⟩ := ub.slot b o e hb
      exact ⟨sl, by rw [gF b hb]; exact q⟩
    · by_cases hb : b ∈ frs X.stack
      · obtain ⟨sl, q⟩ := ub.slot b o e hb
        exact ⟨_, by rw [gF b hb]; exact q⟩
      · obtain ⟨o', q⟩ := ub.there b o e hb
        exact ⟨o', gB b o' q⟩
  · obtain ⟨e', h⟩ := og b o e
    rcases h with h | h
    · obtain ⟨o', q⟩ := Option.isSome_iff_exists.mp h
      have z := st b o' q
      rw [e'] at z; cases z
      exact q
    · exact absurd h hb
theorem frames_but {base h h' : Heap} {C : Addr} (sb : Heap.SameBut C h h') : ∀ {l : List Env}, C ∉ frs l → h.FunFrames base l → h'.FunFrames base l
  | [], _, _ => trivial
  | env :: l, hC, hl => by
    obtain ⟨hk, ⟨L, o, hf, hn, ho, hd⟩, hr⟩ := hl
    refine ⟨hk, ⟨L, o, hf, hn, (sb.2 L fun q => ?_).trans ho, hd⟩, frames_but sb (fun hm => ?_) hr⟩
    · apply hC
      show C ∈ (env :: l).filterMap (·.frame)
      rw [List.filterMap_cons, hf, q]
      exact List.mem_cons_self
    · apply hC
      show C ∈ (env :: l).filterMap (·.frame)
      rw [List.filterMap_cons, hf]
      exact List.mem_cons_of_mem _ hm
theorem comp_passes {scope : Scope} {fp : List Addr} {ce : Env} {H3 : Hp} {s3 : Shared}
    (tk : Takes X (fun cls d _ H => E cls d H)) (hs : X.stack = X.env :: X.outer) (hf : X.env.frame = some X.env.locals) (I3 : Inv X pins σ H3 s3) (hfp : ∀ b ∈ fp, FpOk X pins H3 b) (cf : ce.frame = X.env.frame)
    (cs : X.s_0.heap.objs.size ≤ ce.locals) (cp : ∀ p ∈ X.pn ++ pins, p.1 ≠ ce.locals) (cl : ce.locals ≠ X.env.locals) (cfs : ce.locals ∉ X.fs) (cc : ∀ x c, X.env.cells.lookup x = some c → c ≠ ce.locals) :
    Passes (L2.CX X.prog X.w) ((X.blk s3 H3 scope ce fp).wish (notedBy (model X.prog X.w) X.A ce fun e s' => CompFails (model X.prog X.w) X.A X.xe ce e s')) E := by
  intro pins' σ' H' s e s' I' c
  obtain ⟨a, B, H2, cls, d, rfl, fly, hok, ub, na, os, ag, hE⟩ := c
  have I7 : Inv X pins σ H' s := I3.call' (ch := fp) I'.os I'.base I'.hok I'.bare fun b hb => ⟨(hfp b hb).2.2.2.1, (hfp b hb).2.1, (hfp b hb).2.2.2.2.1, (hfp b hb).2.2.2.2.2⟩
  have nC : H' ce.locals = none := I'.free
  obtain ⟨m, hn, _⟩ := I'.loc
  have hn : s.heap.Ns ce.locals m := hn
  have hCs : ce.locals ∉ frs X.stack := by
    rw [hs]
    show ce.locals ∉ (X.env :: X.outer).filterMap (·.frame)
    rw [List.filterMap_cons, hf]
    intro hm
    rcases List.mem_cons.mp hm with z | z
    · exact cl z
    · exact cfs z
  obtain ⟨oC, es, ep, hoC, hdC, rC⟩ := id hn
  have hBC : B.get? ce.locals = some oC := ub.keep _ _ hoC nC hCs
  have hn' : s'.heap.Ns ce.locals m := ⟨oC, es, ep, fly.1 _ _ hBC, hdC, rC⟩
  have hfr : X.A.frames = some (X.env :: X.outer) := by rw [I7.ok.frames, hs]
  have flys : HandSPX.FlyingZ B (X.env :: X.outer) a (Zc cls d) s'.heap := by rw [← hs]; exact fly
  show wpAny _ _ (noteFrame (.ref a) ce) _ _ s'
  rw [noteFrame_env _ cf]
  refine HandSPX.looks_onZ Zc.steady hfr hf flys fun h1 held up1 => ?_
  have hn1 := up1.ns hn'
  refine ⟨m, hn1, fun h2 m2 hn2 sb => ?_⟩
  obtain ⟨st1, ea, ff1, oe, vs, T, oT, ts, he, hz, hd, hv1, hT, hTe, hoT, hts, hfl⟩ := held
  obtain ⟨oC1, es1, ep1, hoC1, hdC1, _⟩ := id hn1
  have aC : a ≠ ce.locals := fun q => by
    rw [q, hoC1] at he
    cases he
    rw [hdC1] at hd
    cases hd
  have TC : T ≠ ce.locals := fun q => by
    rw [q, hoC1] at hoT
    cases hoT
    rw [hdC1] at hts
    cases hts
  -- the ground without the block
  obtain ⟨B', b1, b2⟩ := restrict B fun b => decide (b ≠ ce.locals)
  have bo : ∀ b o, B'.get? b = some o → b ≠ ce.locals ∧ B.get? b = some o := fun b o q => by
    by_cases hb : b = ce.locals
    · rw [b2 b (by simp [hb])] at q; cases q
    · rw [b1 b (by simp [hb])] at q; exact ⟨hb, q⟩
  have bn : ∀ b, B.get? b = none → B'.get? b = none := fun b q => by
    cases q' : B'.get? b with
    | none => rfl
    | some o => rw [(bo b o q').2] at q; cases q
  obtain ⟨G, g1, g2⟩ := restrict s.heap fun b => decide (b ≠ ce.locals)
  have go : ∀ b o, G.get? b = some o → b ≠ ce.locals ∧ s.heap.get? b = some o := fun b o q => by
    by_cases hb : b = ce.locals
    · rw [g2 b (by simp [hb])] at q; cases q
    · rw [g1 b (by simp [hb])] at q; exact ⟨hb, q⟩
  have ff2 : h2.FunFrames B' (X.env :: X.outer) := funFrames_none (frames_but sb (by rw [← hs]; exact hCs) ff1) fun L hL => bn L (flys.2.2.1.mem hL).1
  have held2 : HandSPX.HeldZ B' (X.env :: X.outer) a (Zc cls d) X.env.locals h2 :=
    ⟨fun b o q => (sb.2 b (bo b o q).1).trans (st1 b o (bo b o q).2), bn a ea, ff2, oe, vs, T, oT, ts, (sb.2 a aC).trans he, hz, hd, hv1, bn T hT, hTe, (sb.2 T TC).trans hoT, hts, hfl⟩
  unfold PySem.passOn
  refine wpAny_bind (wpAny_field (s := { s' with heap := h2 }) ((sb.2 a aC).trans he) hd hv1 ?_)
  rw [if_neg (show ¬ ((Value.ref T == Value.none) = true) from by simp)]
  rw [cf, hf]
  refine wpAny_bind (HandSPX.setFlight_onZ held2 fun h3 held3 up3 => ?_)
  refine wpAny_throw (tk _ _ ?_)
  have I8 : Inv X [] σ H' s := I7.pins_of fun p hp => nomatch hp
  have I9 : Inv X [] σ H' { s with heap := G, toks := s.toks } := I8.turnedL (ch := [ce.locals]) (fun b o hb q => (g1 b (by simpa using hb)).trans q) fun b hb => by
    obtain rfl := List.mem_singleton.mp hb
    exact ⟨nC, cl, cfs, .inr cs, cc, fun p hp => cp p (by
      rw [List.append_nil] at hp
      exact List.mem_append_left _ hp)⟩
  refine of_held (s' := { s' with heap := h3 }) (W := fun cls d _ H => E cls d H) I9 (by rw [hs]; exact held3) ?_ ⟨?_, ?_, ?_, ?_, ub.tups, ub.frzs, ub.tbls⟩ na os ag hE
  · exact fun b o q => (hok b o q).stay (fun c u hc r => by
      have hcC : c ≠ ce.locals := by
        intro z
        have n2 : H2 ce.locals = none := ub.free _ _ hoC nC
        rcases hc with hc | hc
        · rw [← hc, z, n2] at q; cases q
        · rw [z, n2] at hc; cases hc
      rw [b1 c (by simp [hcC])]; exact r) (fun _ q => q) (fun _ _ q => q)
  · exact fun b o q n hb => (b1 b (by simp [(go b o q).1])).trans (ub.keep b o (go b o q).2 n hb)
  · intro b o q hb
    obtain ⟨sl, e⟩ := ub.slot b o (go b o q).2 hb
    have nf : ∀ vs, o.data ≠ .fields vs := by
      obtain ⟨_, o', e', nf⟩ := I7.stack.mem hb
      rw [(go b o q).2] at e'
      cases e'
      exact nf
    obtain ⟨sl1, e1⟩ := up1 b _ e nf
    obtain ⟨sl3, e3⟩ := up3 b _ ((sb.2 b (go b o q).1).trans e1) nf
    exact ⟨sl3, e3⟩
  · exact fun b o q n => ub.free b o (go b o q).2 n
  · intro b o q hb
    obtain ⟨o', e⟩ := ub.there b o (go b o q).2 hb
    exact ⟨o', (b1 b (by simp [(go b o q).1])).trans e⟩
theorem pe_lcX {elt tg iter : Expr} {ifs : List Expr} {scope : Scope} {own : List (Str × Nat)} {pos : Pos} {wi : TI} {g : TG} {tt : TT} {te : TE}
    (hc : X.calm = true) (hN : X.N.Nodup) (tk : Takes X (fun cls d _ H => E cls d H)) (hst : X.stack = X.env :: X.outer) (hfr : X.env.frame = some X.env.locals) (hi : PI X tg iter wi) (ok : BlkOk X.N X.env.scope scope own)
    (hg : ∀ (s : Shared) (H : Hp) (C : Addr) (cl : List (Str × Addr)) (fp : List Addr), PG (X.blk s H scope (compEnvC scope cl C X.env) fp) tg g) (ht : ∀ (s : Shared) (H : Hp) (C : Addr) (cl : List (Str × Addr)) (fp : List Addr), PTs (X.blk s H scope (compEnvC scope cl C X.env) fp) ifs tt)
    (he : ∀ (s : Shared) (H : Hp) (C : Addr) (cl : List (Str × Addr)) (fp : List Addr) (xe : Value → Shared → Prop), Passes (L2.CX X.prog X.w) ((X.blk s H scope (compEnvC scope cl C X.env) fp).wish xe) E → PE ((X.blk s H scope (compEnvC scope cl C X.env) fp).wish xe) elt te)
    (hs : ∀ x, foldedSetIterable iter X.env x = pure x := by intro _; rfl) :
    PE X (.ListComp elt [⟨tg, iter, ifs, 0⟩] scope pos) (tLc wi g tt te (own.map (·.2))) := by
  refine ⟨fun pins s σ H Q I h => ?_⟩
  rw [eval_ListComp]
  have hfree : ∀ y ∈ scope.names, y.2 = .free → ∃ c, X.env.cells.lookup y.1 = some c := fun y hy e => by
    rcases ok.free y hy e with k | k
    · exact I.ok.has _ (.inl k)
    · exact I.ok.has _ (.inr k)
  refine comprehension_at (use := none) rfl hs (closure_ok hfree) ok.kind (fun y hy e => by rw [ok.uniq y hy, e])
    (thn (hi.run pins s σ H _ I h) fun xv s1 hx => thn hx fun itv s2 h2 => ?_)
  obtain ⟨it, fp, tn, J, H2, e, I2, T, st2, f2, q⟩ := h2
  subst e
  refine wpAny_newObj_type (newEnv_comp ?_) (by show 0 ≤ sizeLine; decide)
  generalize hD : s2.heap.objs.size = D
  have hDn : H2 D = none := I2.hok.fresh (Nat.le_of_eq hD)
  obtain ⟨W, ⟨m0, w0⟩, turn⟩ := q D hDn
  -- the new list
  generalize hs3 : ({ s2 with heap := s2.heap.push { cls := .type "list", data := .seq ([] : List Value).toArray } } : Shared) = s3
  have I3 : Inv X pins σ (upd H2 D (.lst [])) s3 := by
    rw [← hs3]
    refine I2.laid (t' := s2.toks) (fun b o e => Heap.get?_push_of_some _ e) (Nat.le_of_eq hD) ⟨Nat.zero_le _, [], 0, .nil, ?_⟩
    rw [← hD]
    exact Heap.get?_push_size _ rfl
  have h3 : s3.heap = s2.heap.push { cls := .type "list", data := .seq ([] : List Value).toArray } := by rw [← hs3]
  have sz : ∀ b ∈ fp, b < s2.heap.objs.size := fun b hb => by
    obtain ⟨o, e, _⟩ := T.obj _ _ st2 b hb
    exact Heap.lt_size e
  have f3 : ∀ b ∈ fp, FpOk X pins (upd H2 D (.lst [])) b ∧ b < s3.heap.objs.size := fun b hb => by
    have hlt := sz b hb
    refine ⟨⟨?_, (f2 b hb).2⟩, by rw [h3, Heap.size_push]; exact Nat.lt_succ_of_lt hlt⟩
    rw [upd_ne (by rw [← hD]; exact Nat.ne_of_lt hlt)]
    exact (f2 b hb).1
  have st3 : tn 0 s3.heap := T.keep _ _ _ st2 fun b _ o e => by rw [h3]; exact Heap.get?_push_of_some _ e
  have I4 := block_start I3 ok hN f3
  have pg := hg s3 (upd H2 D (.lst [])) s3.heap.objs.size (cellsFrom (s3.heap.objs.size + 1) scope.names (cloFrom X.env.cells scope.names [])) fp
  have pt := ht s3 (upd H2 D (.lst [])) s3.heap.objs.size (cellsFrom (s3.heap.objs.size + 1) scope.names (cloFrom X.env.cells scope.names [])) fp
  have ps := comp_passes (scope := scope) (fp := fp) (ce := compEnvC scope (cellsFrom (s3.heap.objs.size + 1) scope.names (cloFrom X.env.cells scope.names [])) s3.heap.objs.size X.env) tk hst hfr I3 (fun b hb => (f3 b hb).1) rfl I3.sz
    (fun p hp q => Nat.lt_irrefl s3.heap.objs.size (by
      have z : p.1 < s3.heap.objs.size := Heap.lt_size (I3.pin p hp).1
      rw [q] at z; exact z)) (fun q => Nat.lt_irrefl s3.heap.objs.size (by
      have z : X.env.locals < s3.heap.objs.size := I3.lt
      rw [← q] at z; exact z)) (I3.nofs (Nat.le_refl _)) (fun x c e q => Nat.lt_irrefl s3.heap.objs.size (by
      obtain ⟨v, hv⟩ := I3.cell x c e
      have z : c < s3.heap.objs.size := by
        obtain ⟨o, ho, _⟩ := hv
        exact Heap.lt_size ho
      rw [q] at z; exact z))
  have pe := he s3 (upd H2 D (.lst [])) s3.heap.objs.size (cellsFrom (s3.heap.objs.size + 1) scope.names (cloFrom X.env.cells scope.names [])) fp _ ps
  show codeAny _ _ (.compStart (.ListComp elt [⟨tg, iter, ifs, 0⟩] scope pos) 0 (.ref it) (.ref D) (compEnvC scope (cellsFrom (s3.heap.objs.size + 1) scope.names (cloFrom X.env.cells scope.names [])) s3.heap.objs.size X.env)) (compEnds (model X.prog X.w) X.A X.xe none (EP X pins σ Q) (.ref D) (compEnvC scope (cellsFrom (s3.heap.objs.size + 1) scope.names (cloFrom X.env.cells scope.names [])) s3.heap.objs.size X.env)) { s3 with heap := pushCells (s3.heap.push { cls := .type "dict", data := .dict #[] }) scope.names }
  have nfp : ∀ b ∈ fp, (upd H2 D (.lst [])) b = none := fun b hb => (f3 b hb).1.1
  generalize hce : compEnvC scope (cellsFrom (s3.heap.objs.size + 1) scope.names (cloFrom X.env.cells scope.names [])) s3.heap.objs.size X.env = ce at I4 ps pg pt pe ⊢
  have cL : ce.locals = s3.heap.objs.size := by subst hce; rfl
  generalize hH3 : upd H2 D (.lst []) = H3 at I3 I4 ps pg pt pe w0 nfp f3
  generalize hs4 : ({ s3 with heap := pushCells (s3.heap.push { cls := .type "dict", data := .dict #[] }) scope.names } : Shared) = s4 at I4 ⊢
  have st4 : tn 0 s4.heap := T.keep _ _ _ st3 fun b _ o e => by rw [← hs4]; exact pushCells_keeps _ _ _ _ (Heap.get?_push_of_some _ e)
  have stat : ∀ {σ' : St} {H' : Hp} {s' : Shared}, Inv (X.blk s3 H3 scope ce fp) [] σ' H' s' → (∀ b ∈ fp, H' b = none) → ∀ b ∈ fp, FpOk (X.blk s3 H3 scope ce fp) [] H' b := fun {σ' H' s'} I' hn b hb =>
    ⟨hn b hb, (I'.ok.exf b hb).1, I'.ok.exfs b hb, .inl hb, fun x c e => (I'.ok.exf b hb).2 x c e, fun p hp => absurd (show p ∈ ([] : List (Addr × Obj)) ++ [] from hp) (by simp)⟩
  have loop : codeAny (model X.prog X.w) X.A (.compLoop (.ListComp elt [⟨tg, iter, ifs, 0⟩] scope pos) 0 (.ref it) (.ref D) ce) (compEnds (model X.prog X.w) X.A X.xe none (EP X pins σ Q) (.ref D) ce) s4 := by
    refine compLoop_any (fun n s' => ∃ i H', Inv (X.blk s3 H3 scope ce fp) [] (wipe σ (own.map (·.2))) H' s' ∧ tn i s'.heap ∧ (∀ b ∈ fp, H' b = none) ∧ W i n H') ?_ m0 ⟨0, H3, I4, st4, nfp, w0⟩
    rintro n s5 ⟨i, H5, I5, st5, n5, w5⟩
    rcases turn i n H5 w5 with ⟨stop, qq⟩ | ⟨go, Nx, hNx, step⟩
    · have td := T.done (X.blk s3 H3 scope ce fp) rfl rfl rfl hc i [] s5 _ H5 (fun _ _ => False) I5 (stat I5 n5) st5 stop
      refine thnF td fun r s6 ⟨hr, I6⟩ => ?_
      subst hr
      -- back in the def's context
      have I7 : Inv X pins σ H5 s6 := I3.call' (ch := fp) I6.os I6.base I6.hok I6.bare fun b hb => ⟨(f3 b hb).1.2.2.2.1, (f3 b hb).1.2.1, (f3 b hb).1.2.2.2.2.1, (f3 b hb).1.2.2.2.2.2⟩
      have nC : H5 s3.heap.objs.size = none := by
        have z : H5 ce.locals = none := I6.free
        rw [cL] at z
        exact z
      obtain ⟨m, hn, _⟩ := I6.loc
      have hn : s6.heap.Ns ce.locals m := hn
      rw [cL] at hn
      have f := I3.fpOk (Nat.le_refl _) nC
      refine ⟨m, by rw [cL]; exact hn, fun h'' sb => ?_⟩
      rw [cL] at sb
      obtain ⟨f0, f1, f2, f3, f4, f5⟩ := f
      exact ⟨.ref D, H5, I7.turned (t' := s6.toks) (fun b o hb e => (sb.2 b hb).trans e) f0 f1 f3 f4 f5, rfl, qq⟩
    · have ti := T.item (X.blk s3 H3 scope ce fp) rfl rfl rfl hc i [] s5 _ H5 (fun _ _ => False) I5 (stat I5 n5) st5 go
      refine thnF ti fun r s6 ⟨u, hr, h6⟩ => ?_
      subst hr
      refine thnF h6 fun _ s7 ⟨x, H7, I7, r7, y7, st7, n7⟩ => ?_
      have I7' := I7.pinned (stat I7 n7) (T.obj _ _ st7)
      refine thnF (pg.run _ s7 _ H7 x u _ I7' r7 (step x H7 y7)) fun _ s8 ⟨σ8, H8, I8, hw8, q8⟩ => ?_
      refine thnF (pt.run _ s8 σ8 H8 _ I8 q8) fun b s9 ⟨H9, I9, q9⟩ => ?_
      -- the turn's end
      have fin : ∀ {s' : Shared} {H' : Hp}, Inv (X.blk s3 H3 scope ce fp) ([] ++ pinsAt fp s7.heap) σ8 H' s' → Nx H' → ∃ m, m < n ∧ ∃ i H', Inv (X.blk s3 H3 scope ce fp) [] (wipe σ (own.map (·.2))) H' s' ∧ tn i s'.heap ∧ (∀ b ∈ fp, H' b = none) ∧ W i m H' := fun {s' H'} I' nx => by
        obtain ⟨m', hm, w'⟩ := hNx H' nx
        have pin' : ∀ b ∈ fp, ∀ o, s7.heap.get? b = some o → s'.heap.get? b = some o ∧ H' b = none := fun b hb o e =>
          let z := I'.pin (b, o) (List.mem_append_right _ (List.mem_append_right _ (mem_pinsAt hb e)))
          ⟨z.1, z.2.1⟩
        have hl : (wipe σ (own.map (·.2))).length = σ8.length := by rw [← hw8, wipe_length]
        refine ⟨m', hm, i + 1, H', (I'.unpinned (pins := [])).weak hl (fun j v e => ?_), T.keep _ _ _ st7 fun b hb o e => (pin' b hb o e).1, fun b hb => ?_, w'⟩
        · rw [← hw8] at e
          exact (wipe_some e).1
        · obtain ⟨o, e, _⟩ := T.obj _ _ st7 b hb
          exact (pin' b hb o e).2
      cases b with
      | false =>
        simp only [Bool.false_eq_true, if_false] at q9 ⊢
        exact fin I9 q9
      | true =>
        simp only [if_true] at q9 ⊢
        refine thn (pe.run _ s9 σ8 H9 _ (I9.wish _) q9) fun z s10 ⟨yv, H10, I10, r10, acc, hD10, hz10, nx⟩ => ?_
        exact app_ok (X := X.blk s3 H3 scope ce fp) I10.unwish hD10 hz10 r10 fun s11 I11 => fin I11 nx
  exact codeAny_compStart_list loop (T.self X.A 0 _ _ _ st4 loop)
end
end RbR
set_option maxRecDepth 100000
set_option maxHeartbeats 4000000
namespace RbR
open PySem PySem.Spec PyProof.Rows L2
/-! ### try .. except X as n, further clauses behind it: X takes all that comes -/
def wFirst (K : PySem.W.Frag) (c : Value) (i : Nat) (ts : Addr → Value → Option Addr → TS) (D : Ends) : WX := fun cls d σ H =>
  PySem.W.exmOne K cls c = some true ∧ ∀ a, H a = none → ts a cls d { nx := fun σ' H' => D.nx (σ'.set i none) H', rt := D.rt, bk := fun σ' H' => D.bk (σ'.set i none) H', ct := fun σ' H' => D.ct (σ'.set i none) H' } (σ.set i (some (.ref a))) H
section
variable {X : Cx} {x n : Str} {c : Value} {i : Nat} {body suite : List Stmt} {b₀ : Stmt} {np pos pos' : Pos} {tb : WX → TS} {ts : Addr → Value → Option Addr → TS}
theorem ps_try_first {hds : List ExceptHandler} (hs : X.stack = X.env :: X.outer) (hf : X.env.frame = some X.env.locals) (hN : X.N.Nodup) (hi : X.N[i]? = some n) (hln : X.env.kindOf n = some .local) (hc : Names X x c)
    (hb : ∀ (W : WX) (pn : List (Addr × Obj)) (xe : Value → Shared → Prop), Takes (X.tr pn xe) W → PSs (X.tr pn xe) body (tb W))
    (hsu : ∀ (a : Addr) (oe : Obj) (cls : Value) (d : Option Addr) (pn : List (Addr × Obj)), Zc cls d oe → (∃ vs, oe.data = .fields vs) → PSs (X.suite a ((a, oe) :: pn)) (b₀ :: suite) (ts a cls d)) :
    PS X (.Try body (.ExceptHandler (some (.Name x np)) (some n) (b₀ :: suite) pos' :: hds) [] [] pos) (fun D σ H => tb (wFirst X.K c i ts D) D σ H) := by
  refine ⟨fun pins s σ H D I h => ?_⟩
  have ok := I.ok
  have hfr : X.A.frames = some (X.env :: X.outer) := by rw [ok.frames, hs]
  have hloc : Loc X.env.scope n := .inl hln
  refine wpAny_Try_except (wpAny_mono ((hb (wFirst X.K c i ts D) (X.pn ++ pins) (fun e s₁ => wpAny (model X.prog X.w) X.A (noteFrame e X.env) (fun _ s₂ => wpAny (model X.prog X.w) X.A (setFlight e none) (fun _ s₃ =>
    wpAny (model X.prog X.w) X.A (handleBy e X.env (.ExceptHandler (some (.Name x np)) (some n) (b₀ :: suite) pos' :: hds)) (SP X pins D) X.xe s₃) X.xe s₂) X.xe s₁) (fun u s' xx => ?_)).run [] s σ H D (I.toTry _) h) (fun f s1 hsp => ?_) (fun e s1 he => he))
  · obtain ⟨a, B, sI, pins', σ', H', cls, d, rfl, J', nb, up, sky, na, os, ag, hb1, hyes⟩ := xx
    have J : Inv X pins σ' H' sI := J'.ofTry ok
    refine Sky.land Zc.steady hfr hf (by rw [← hs]; exact sky) fun h3 fl3 up3 => ?_
    have J3 : Inv X pins σ' H' { s' with heap := h3 } := J.landed nb fl3.1 (up.trans up3) os ag
    obtain ⟨oe3, vs3, he3, hz3, hd3⟩ := fl3.there
    have nfr : a ∉ frs (X.env :: X.outer) := fun hm => by
      obtain ⟨_, o', e', hnf⟩ := fl3.2.2.1.mem hm
      rw [he3] at e'; cases e'
      exact hnf _ hd3
    have nL : a ≠ X.env.locals := fun z => nfr (List.mem_filterMap.mpr ⟨X.env, List.mem_cons_self, by rw [hf, z]⟩)
    have nF : a ∉ X.fs := fun hm => by
      obtain ⟨e, he, q⟩ := List.mem_filterMap.mp hm
      exact nfr (List.mem_filterMap.mpr ⟨e, List.mem_cons_of_mem _ he, q⟩)
    have S3 := J3.suite he3 hd3 na nL nF
    refine wpAny_handleBy_cons (codeAny_handlers_test ?_) (by intro q; cases q)
    have LT : PySem.W.Looks (model X.prog X.w) h3 (typeOf (.ref a)) cls := fun A Q E s k q => wpAny_typeOf_ref (k _ _ he3) (by rw [hz3.1]; exact q)
    have LM := PySem.W.exm_one (M := model X.prog X.w) (J3.kIn) LT hb1
    have test : ∀ {Q : Value → Shared → Prop} {E : Value → Shared → Prop}, Q c { s' with heap := h3 } → wpAny (model X.prog X.w) (X.A.mark (some (.ref a))) (eval (.Name x np) X.env) Q E { s' with heap := h3 } := fun {Q E} q => by
      obtain ⟨hg, hdbg, hm | ⟨hm, hv, hnn⟩⟩ := hc
      · exact ld_glob (X := X.suite a ((a, oe3) :: (X.pn ++ pins))) S3 hg hm q hdbg
      · exact ld_blt (X := X.suite a ((a, oe3) :: (X.pn ++ pins))) S3 hg hm hv q hnn hdbg
    refine test (LM.here ?_)
    refine codeAny_handlers_suite_as (HandSPX.lands_againZ fl3 fun h4 fl4 up4 => ?_)
    have J4 : Inv X pins σ' H' { s' with heap := h4 } := J.landed nb fl4.1 ((up.trans up3).trans up4) os ag
    obtain ⟨oe4, vs4, he4, hz4, hd4⟩ := fl4.there
    refine store_ok (X := X.suite a ((a, oe4) :: (X.pn ++ pins))) (v := .ref a) (J4.suite he4 hd4 na nL nF) hN hi hloc rfl (fun s5 S5 => ?_) (.inr hln)
    refine wpAny_mono ((hsu a oe4 cls d (X.pn ++ pins) hz4 ⟨_, hd4⟩).run [] s5 _ H' _ S5 (hyes a na)) (fun f s6 hsp => ?_) (fun _ _ z => False.elim z)
    have end_ : ∀ {σ6 : St} {H6 : Hp} {Q : Shared → Prop}, Inv (X.suite a ((a, oe4) :: (X.pn ++ pins))) [] σ6 H6 s6 → (∀ s7, Inv X pins (σ6.set i none) H6 s7 → Q s7) →
        wpAny (model X.prog X.w) X.A (do bindName X.env n .none; unbindBehindTheSuite X.env n pos') (fun _ s7 => Q s7) X.xe s6 := fun {σ6 H6 Q} S6 hq => gone_ok (S6.unsuite ok) hN hi hln hq
    cases f with
    | ret u =>
      obtain ⟨v6, σ6, H6, S6, r6, q6⟩ := hsp
      exact end_ S6 fun s7 J7 => ⟨_, _, _, J7, r6, q6⟩
    | next =>
      obtain ⟨σ6, H6, S6, q6⟩ := hsp
      exact end_ S6 fun s7 J7 => ⟨_, _, J7, q6⟩
    | brk =>
      obtain ⟨σ6, H6, S6, q6⟩ := hsp
      exact end_ S6 fun s7 J7 => ⟨_, _, J7, q6⟩
    | cont =>
      obtain ⟨σ6, H6, S6, q6⟩ := hsp
      exact end_ S6 fun s7 J7 => ⟨_, _, J7, q6⟩
  · cases f with
    | ret u =>
      obtain ⟨v, σ', H', J', r, q⟩ := hsp
      exact ⟨v, σ', H', J'.ofTry ok, r, q⟩
    | next =>
      obtain ⟨σ', H', J', q⟩ := hsp
      exact wpAny_execs_nil ⟨σ', H', J'.ofTry ok, q⟩
    | brk =>
      obtain ⟨σ', H', J', q⟩ := hsp
      exact ⟨σ', H', J'.ofTry ok, q⟩
    | cont =>
      obtain ⟨σ', H', J', q⟩ := hsp
      exact ⟨σ', H', J'.ofTry ok, q⟩
end
/-! ### a def called while an exception is handled; it raises nothing -/
structure FnA (P : Program) (w : World) (K : PySem.W.Frag) (mg : Str → Option Value) (base : Heap) (k : Nat) (f : Addr) (fd : FuncData) (ps : List Str) (sp : Addr × Obj → List V → Hp → VK → Prop) : Prop where
  len : ∀ p vs H Q, sp p vs H Q → vs.length = ps.length
  run : ∀ (A : Around) (outer : List Env) (s : Shared) (H : Hp) (args : Args) (us : List Value) (vs : List V) (Q : VK) (p : Addr × Obj), L2H.RoomH k A → L2H.PinOk outer H s p → Env0 P w K mg base A outer s H → BindsTo s fd args (ps.zip us) → Vals vs us → sp p vs H Q →
    codeAny (model P w) A (.call (.ref f) args) (CR L2.CX0 outer P w H s Q L2.E0) s
theorem fn_ofA {P : Program} {w : World} {K : PySem.W.Frag} {mg : Str → Option Value} {base : Heap} {k : Nat} {f : Addr} {name qual : Str} {params : Arguments} {body : List Stmt} {scope : Scope} {dV kV doc pm cdv ct oc : Value} {an od : Option Addr}
    {osl : Array (Option Value)} {N ps : List Str} {sp : Addr × Obj → List V → Hp → VK → Prop} (lk : K.lookup f = some ⟨oc, od, .func (PySem.W.fnOf name qual params body scope dV kV doc pm an cdv ct), osl⟩) (hcd : PySem.W.codeIn K cdv qual = true) (S : FnScope N ps scope)
    (len : ∀ p vs H Q, sp p vs H Q → vs.length = ps.length)
    (hbody : ∀ (A : Around) (outer : List Env) (s : Shared) (H : Hp) (vs : List V) (Q : VK) (p : Addr × Obj), L2H.RoomH k (A.deeper (envOfC qual scope s.heap.objs.size f cdv)) → sp p vs H Q →
      ∃ t, PSs (L2H.cxH L2.CX0 P w K mg base N qual scope f cdv A outer s H L2.E0 p) body t ∧ t { nx := fun _ H' => Q .non H', rt := Q } (L2.start N vs) H) :
    FnA P w K mg base (k + 1) f (PySem.W.fnOf name qual params body scope dV kV doc pm an cdv ct) ps sp := by
  refine ⟨len, fun A outer s H args us vs Q p hr hpin e0 hb r hsp => ?_⟩
  have hl := len _ _ _ _ hsp
  have KX : K.In s.heap := e0.mod.kin.keeps fun b o e => (e0.bs b o e).1
  have lim : s.heap.NoLimit := e0.mod.nolimit.keeps fun b o e => (e0.bs b o e).1
  have hkind : ∀ y ∈ ps.zip us, scope.names.lookup y.1 = some .local ∨ (scope.names.lookup y.1 = some .cell ∧ ((cellsFrom (s.heap.objs.size + 1) scope.names []).lookup y.1).isSome = true) := fun ⟨n, v⟩ hy => by
    rcases S.par n (List.of_mem_zip hy).1 with q | q
    · exact .inl q
    · exact .inr ⟨q, PySem.W.cellsFrom_some _ _ _ (.inl q)⟩
  refine codeAny_call_function hr.depth (KX _ _ lk) rfl S.co S.gen rfl (PySem.W.codeRec_of KX hcd) (hb _ _ _ _ (wpAny_newFunctionEnv_cells S.kind hkind fun env he s1 x => ?_))
  subst he
  refine ⟨lim.keeps x.toInCall.keep, codeAny_func ?_⟩
  obtain ⟨t, ht, hq⟩ := hbody A outer s H vs Q p (hr.deeper _) hsp
  have I : Inv (L2H.cxH L2.CX0 P w K mg base N qual scope f cdv A outer s H L2.E0 p) [] (L2.start N vs) H s1 := L2H.inv_startH S hpin e0 hl r x
  refine wpAny_mono (ht.run [] s1 (L2.start N vs) H _ I hq) (fun fl s' hs => ?_) fun e s' hs => hs
  cases fl with
  | ret u =>
    obtain ⟨v, σ', H', J, rv, q⟩ := hs
    exact ⟨v, H', J.os, J.bare, J.base, J.hok, rv, q⟩
  | next =>
    obtain ⟨σ', H', J, q⟩ := hs
    exact ⟨.non, H', J.os, J.bare, J.base, J.hok, rfl, q⟩
  | brk =>
    obtain ⟨_, _, _, q⟩ := hs
    exact False.elim q
  | cont =>
    obtain ⟨_, _, _, q⟩ := hs
    exact False.elim q
section
variable {X : Cx} {k : Nat} {f : Addr} {fd : FuncData} {ps : List Str} {sp : Addr × Obj → List V → Hp → VK → Prop} {x : Str} {q pos : Pos} {e : Expr} {es : List Expr} {t : TA}
theorem pe_callA {p : Addr × Obj} (F : FnA X.prog X.w X.K X.mg X.base k f fd ps sp) (hr : L2H.RoomH k X.A) (hp : p ∈ X.pn) (hg : Gl X x) (hm : X.mg x = some (.ref f)) (hk : PySem.W.keepIn X.K (.ref f) = true) (hb : Binds X.K fd ps [])
    (ha : PA X (e :: es) t) (hdb : (x == ("__debug__" : Str)) = false := by decide) (he : starEach (e :: es) X.env = (false, eval e X.env) :: starEach es X.env := by rfl) (hpl : (backTo pos (starEach es X.env)).any (·.1) = false := by rfl) :
    PE X (.Call (.Name x q) (e :: es) [] pos) (fun σ H Q => t σ H fun vs H1 => sp p vs H1 Q) := by
  refine ⟨fun pins s σ H Q I h => ?_⟩
  refine wpAny_Call_Name_kw (ld_glob I hg hm ?_ hdb)
  refine PySem.W.callWith_K (h₀ := X.base) I.ok.mod.kin hk (thn (ha.run pos pins s σ H _ I h) fun us s1 ⟨vs, H1, I1, r, q⟩ => ⟨I1.kIn, ?_⟩) he hpl
  have hl : us.length = ps.length := by rw [← r.length]; exact F.len _ _ _ _ q
  have b := hb s1 us I1.kIn (by rw [List.append_nil]; exact hl)
  rw [List.append_nil] at b
  have P1 := I1.pin p (List.mem_append_left _ hp)
  have hpin : L2H.PinOk X.stack H1 s1 p := ⟨P1.1, P1.2.1, fun hm => (List.mem_cons.mp (I1.stkSub p.1 hm)).elim P1.2.2.1 P1.2.2.2.1, P1.2.2.2.2⟩
  refine wpAny_call (codeAny_mono (F.run X.A X.stack s1 H1 ⟨us, []⟩ us vs Q p hr hpin I1.env0 b r q) fun r s' hq => ?_)
  cases r with
  | error e => exact False.elim hq
  | ok fl =>
    cases fl with
    | ret u => exact I1.after hq
    | next => exact False.elim hq
    | brk => exact False.elim hq
    | cont => exact False.elim hq
/-- e.f where the exception is pinned -/
theorem pe_xfA {a C : Addr} {oe : Obj} {d : Option Addr} {e : Expr} {te : TE} {pos : Pos} {n : Str} (T : XfC X.K C) (hno : PySem.W.findIn X.K (.ref C) n = some none)
    (hz : Zc (.ref C) d oe) (hf : ∃ vs, oe.data = .fields vs) (hp : (a, oe) ∈ X.pn) (he : PE X e te) (hb : attributeBase e n X.env (eval e X.env) = eval e X.env := by rfl) :
    PE X (.Attribute e n pos) (fun σ H Q => te σ H fun x H1 => x = .ref a ∧ ∃ (dd : Addr) (fs : List (Str × V)) (v : V), d = some dd ∧ H1 dd = some (.xd fs) ∧ fs.lookup n = some v ∧ Q v H1) := by
  refine ⟨fun pins s σ H Q I h => ?_⟩
  refine attr_of hb (thn (he.run pins s σ H _ I h) fun u s1 hh => ?_)
  obtain ⟨x, H1, I1, rx, ex, dd, fs, v, ed, ea, l, q⟩ := hh
  subst ex
  obtain rfl : u = Value.ref a := rx
  subst ed
  obtain ⟨ha, _⟩ := I1.pin (a, oe) (List.mem_append_left _ hp)
  obtain ⟨vs, hd⟩ := hf
  obtain ⟨mA, hns, hr⟩ : ObjOk X.prog X.w H1 s1.heap dd (.xd fs) := I1.hok dd _ ea
  obtain ⟨od, ho, hl⟩ := lookIn_ns hns
  obtain ⟨u, hu, ru⟩ := RelO.some_of (v := v) (o := mA n) (by rw [← l]; exact hr n)
  have J : PySem.W.InstAt s1.heap a oe C (some od) := ⟨ha, hz.1, by unfold PySem.W.notCls; rw [hd] <;> rfl, by rw [hz.2]; exact ho⟩
  exact HandSPX.exc_get I1.kIn J T.ga T.gg T.exC (PySem.W.findObj_own T.hdC hno rfl (by rw [hl, hu])) (handed_of ru) ⟨v, H1, I1.tok _, ru, q⟩
end
end RbR
set_option maxRecDepth 100000
set_option maxHeartbeats 4000000
namespace Rb
open PySem PySem.Spec PyProof.Rows L2 SX RbR
open TL (numL)
abbrev St := L2.St
/-! ### the text by places -/
def top (i : Nat) : Stmt := PySem.Challenge.pw_rootbags_k52_whole_texts_and_trees.main.body.getD i (.Pass ⟨0, 0, 0, 0⟩)
/-! ### heaps -/
def But (x : Addr) (H H' : Hp) : Prop := ∀ b o, b ≠ x → H b = some o → H' b = some o
def KT (H H' : Hp) : Prop := ∀ b xs, H b = some (.tup xs) → H' b = some (.tup xs)
theorem _root_.L2.Same.new {H : Hp} {p : Addr} {o : HO} (h : H p = none) : Same H (upd H p o) := fun b u e => by rw [upd_ne (ne_of_none e h)]; exact e
theorem _root_.L2.Same.and {H H1 : Hp} {p : Addr} {o : HO} (s : Same H H1) (h : H1 p = none) : Same H (upd H1 p o) := s.trans (Same.new h)
theorem _root_.L2.Same.kt {H H' : Hp} (s : Same H H') : KT H H' := fun b xs e => s b _ e
theorem _root_.L2.Same.but {H H' : Hp} (s : Same H H') (x : Addr) : But x H H' := fun b o _ e => s b o e
theorem But.refl (x : Addr) (H : Hp) : But x H H := fun _ _ _ e => e
theorem But.trans {x : Addr} {H H1 H2 : Hp} (a : But x H H1) (b : But x H1 H2) : But x H H2 := fun c o n e => b c o n (a c o n e)
theorem But.put {x : Addr} {H H1 : Hp} {o : HO} (a : But x H H1) : But x H (upd H1 x o) := fun c u n e => by rw [upd_ne n]; exact a c u n e
theorem But.new {x p : Addr} {H H1 : Hp} {o : HO} (a : But x H H1) (h : H1 p = none) : But x H (upd H1 p o) := a.trans ((Same.new h).but x)
theorem But.same {x : Addr} {H H1 H2 : Hp} (a : But x H H1) (s : Same H1 H2) : But x H H2 := a.trans (s.but x)
theorem But.kt {x : Addr} {H H' : Hp} (a : But x H H') (hx : ∀ xs, H x ≠ some (.tup xs)) : KT H H' := fun b xs e => a b _ (fun q => hx xs (q ▸ e)) e
theorem But.out {x : Addr} {H H' : Hp} (a : But x H H') (hx : H x = none) : Same H H' := fun b o e => a b o (fun q => by rw [q, hx] at e; cases e) e
theorem KT.refl (H : Hp) : KT H H := fun _ _ e => e
theorem KT.trans {H H1 H2 : Hp} (a : KT H H1) (b : KT H1 H2) : KT H H2 := fun c xs e => b c xs (a c xs e)
theorem KT.new {H : Hp} {p : Addr} {o : HO} (h : H p = none) : KT H (upd H p o) := (Same.new h).kt
/-! ### values -/
def RtAt (H : Hp) (v : V) (q : Rt) : Prop := ∃ a, v = .ref a ∧ H a = some (.tup [.int q.1, .int q.2])
abbrev RtsAt (H : Hp) : List V → List Rt → Prop := Paired (RtAt H)
def NumsT (H : Hp) (v : V) (qs : List Rt) : Prop := ∃ b vs, v = .ref b ∧ H b = some (.tup vs) ∧ RtsAt H vs qs
def wd : Tm → Str
  | .name _ => "name" | .list _ => "list" | .roots _ => "roots" | .unity _ => "unity"
  | .bin .join _ _ => "join" | .bin .sum _ _ => "sum" | .bin .diff _ _ => "difference" | .bin .prod _ _ => "product" | .bin .quot _ _ => "quotient"
  | .neg _ => "negative" | .pow _ _ => "power" | .map _ _ => "map" | .sums _ _ => "sums" | .prods _ _ => "products"
  | .dist _ => "distinct" | .comm _ _ => "common" | .wout _ _ => "without"
def bw : Bop → Str
  | .join => "join" | .sum => "sum" | .diff => "difference" | .prod => "product" | .quot => "quotient"
def TreeAt (H : Hp) : V → Tm → Prop
  | v, .name s => ∃ a, v = .ref a ∧ H a = some (.tup [.str "name", .str (S s)])
  | v, .list qs => ∃ a b, v = .ref a ∧ H a = some (.tup [.str "list", b]) ∧ NumsT H b qs
  | v, .roots qs => ∃ a b, v = .ref a ∧ H a = some (.tup [.str "roots", b]) ∧ NumsT H b qs
  | v, .unity n => ∃ a, v = .ref a ∧ H a = some (.tup [.str "unity", .int (n : Nat)])
  | v, .bin o x y => ∃ a b c, v = .ref a ∧ H a = some (.tup [.str (bw o), b, c]) ∧ TreeAt H b x ∧ TreeAt H c y
  | v, .neg x => ∃ a b, v = .ref a ∧ H a = some (.tup [.str "negative", b]) ∧ TreeAt H b x
  | v, .pow x n => ∃ a b, v = .ref a ∧ H a = some (.tup [.str "power", b, .int (n : Nat)]) ∧ TreeAt H b x
  | v, .map p x => ∃ a b c, v = .ref a ∧ H a = some (.tup [.str "map", b, c]) ∧ NumsT H b p ∧ TreeAt H c x
  | v, .sums x n => ∃ a b, v = .ref a ∧ H a = some (.tup [.str "sums", b, .int (n : Nat)]) ∧ TreeAt H b x
  | v, .prods x n => ∃ a b, v = .ref a ∧ H a = some (.tup [.str "products", b, .int (n : Nat)]) ∧ TreeAt H b x
  | v, .dist x => ∃ a b, v = .ref a ∧ H a = some (.tup [.str "distinct", b]) ∧ TreeAt H b x
  | v, .comm x y => ∃ a b c, v = .ref a ∧ H a = some (.tup [.str "common", b, c]) ∧ TreeAt H b x ∧ TreeAt H c y
  | v, .wout x y => ∃ a b c, v = .ref a ∧ H a = some (.tup [.str "without", b, c]) ∧ TreeAt H b x ∧ TreeAt H c y
theorem RtAt.kt {H H' : Hp} (k : KT H H') {v : V} {q : Rt} (h : RtAt H v q) : RtAt H' v q := by
  obtain ⟨a, e, h⟩ := h
  exact ⟨a, e, k a _ h⟩
theorem RtsAt.kt {H H' : Hp} (k : KT H H') {vs : List V} {qs : List Rt} (h : RtsAt H vs qs) : RtsAt H' vs qs := Paired.mapP h fun _ _ r => r.kt k
theorem NumsT.kt {H H' : Hp} (k : KT H H') {v : V} {qs : List Rt} (h : NumsT H v qs) : NumsT H' v qs := by
  obtain ⟨b, vs, e, h, r⟩ := h
  exact ⟨b, vs, e, k b _ h, RtsAt.kt k r⟩
theorem TreeAt.kt {H H' : Hp} (k : KT H H') : ∀ {T : Tm} {v : V}, TreeAt H v T → TreeAt H' v T
  | .name _, _, ⟨a, e, h⟩ => ⟨a, e, k a _ h⟩
  | .list _, _, ⟨a, b, e, h, n⟩ => ⟨a, b, e, k a _ h, n.kt k⟩
  | .roots _, _, ⟨a, b, e, h, n⟩ => ⟨a, b, e, k a _ h, n.kt k⟩
  | .unity _, _, ⟨a, e, h⟩ => ⟨a, e, k a _ h⟩
  | .bin _ _ _, _, ⟨a, b, c, e, h, x, y⟩ => ⟨a, b, c, e, k a _ h, x.kt k, y.kt k⟩
  | .neg _, _, ⟨a, b, e, h, x⟩ => ⟨a, b, e, k a _ h, x.kt k⟩
  | .pow _ _, _, ⟨a, b, e, h, x⟩ => ⟨a, b, e, k a _ h, x.kt k⟩
  | .map _ _, _, ⟨a, b, c, e, h, n, x⟩ => ⟨a, b, c, e, k a _ h, n.kt k, x.kt k⟩
  | .sums _ _, _, ⟨a, b, e, h, x⟩ => ⟨a, b, e, k a _ h, x.kt k⟩
  | .prods _ _, _, ⟨a, b, e, h, x⟩ => ⟨a, b, e, k a _ h, x.kt k⟩
  | .dist _, _, ⟨a, b, e, h, x⟩ => ⟨a, b, e, k a _ h, x.kt k⟩
  | .comm _ _, _, ⟨a, b, c, e, h, x, y⟩ => ⟨a, b, c, e, k a _ h, x.kt k, y.kt k⟩
  | .wout _ _, _, ⟨a, b, c, e, h, x, y⟩ => ⟨a, b, c, e, k a _ h, x.kt k, y.kt k⟩
/-! ### defs of the text -/
structure Dfn (K : PySem.W.Frag) (mg : Str → Option Value) (x : Str) (st : Stmt) : Prop where
  ex : ∃ (f : Addr) (fd : FuncData), L2.Fun K x x st f fd ∧ mg x = some (.ref f)
structure Mtd (K : PySem.W.Frag) (C : Addr) (m q : Str) (st : Stmt) : Prop where
  ex : ∃ (f : Addr) (fd : FuncData), L2.Fun K m q st f fd ∧ Meth K C m f
section
variable (P : Program) (w : World) (K : PySem.W.Frag) (mg : Str → Option Value) (base : Heap)
structure Cal (CX : CXT) (k : Nat) (x : Str) (sp : Sp) : Prop where
  ex : ∃ (f : Addr) (fd : FuncData) (ps : List Str), FnOk P w K mg base CX k f fd ps sp ∧ mg x = some (.ref f) ∧ PySem.W.keepIn K (.ref f) = true ∧ Binds K fd ps []
structure Met (CX : CXT) (k : Nat) (C : Addr) (m : Str) (sp : Sp) : Prop where
  ex : ∃ (f : Addr) (fd : FuncData) (ps : List Str), Cls K C ∧ Meth K C m f ∧ FnOk P w K mg base CX k f fd ps sp ∧ Binds K fd ps []
end
section
variable {P : Program} {w : World} {K : PySem.W.Frag} {mg : Str → Option Value} {base : Heap} {x m q : Str} {st : Stmt} {N ps : List Str} {k : Nat} {sp : Sp} {C : Addr}
theorem cal0 (D : Dfn K mg x st) (S : FnScope N ps (defScope st)) (len : ∀ vs H Q E, sp vs H Q E → vs.length = ps.length)
    (b : ∀ (kV doc pm : Value) (an : Option Addr) (cdv ct : Value) (us : List Value), us.length = ps.length → bindArgs (PySem.W.fnOf x x (defArgs st) (defBody st) (defScope st) .none kV doc pm an cdv ct) ⟨us, []⟩ = pure (ps.zip us))
    (hbody : ∀ (f : Addr) (cdv : Value) (A : Around) (outer : List Env) (s : Shared) (H : Hp) (vs : List V) (Q : VK) (E : XK), Room k (A.deeper (envOfC x (defScope st) s.heap.objs.size f cdv)) → sp vs H Q E →
      ∃ t, PSs (cxOf L2.CX0 P w K mg base N x (defScope st) f cdv A outer s H E).nox (defBody st) t ∧ t { nx := fun _ H' => Q .non H', rt := Q } (L2.start N vs) H) : Cal P w K mg base L2.CX0 (k + 1) x sp := by
  obtain ⟨f, fd, F, hm⟩ := D.ex
  exact ⟨f, fd, ps, F.ok S len (hbody f), hm, F.kp, F.binds b⟩
theorem calX (D : Dfn K mg x st) (S : FnScope N ps (defScope st)) (len : ∀ vs H Q E, sp vs H Q E → vs.length = ps.length)
    (b : ∀ (kV doc pm : Value) (an : Option Addr) (cdv ct : Value) (us : List Value), us.length = ps.length → bindArgs (PySem.W.fnOf x x (defArgs st) (defBody st) (defScope st) .none kV doc pm an cdv ct) ⟨us, []⟩ = pure (ps.zip us))
    (hbody : ∀ (f : Addr) (cdv : Value) (A : Around) (outer : List Env) (s : Shared) (H : Hp) (vs : List V) (Q : VK) (E : XK), Room k (A.deeper (envOfC x (defScope st) s.heap.objs.size f cdv)) → sp vs H Q E →
      ∃ t, PSs (cxOf (L2.CX P w) P w K mg base N x (defScope st) f cdv A outer s H E) (defBody st) t ∧ t { nx := fun _ H' => Q .non H', rt := Q } (L2.start N vs) H) : Cal P w K mg base (L2.CX P w) (k + 1) x sp := by
  obtain ⟨f, fd, F, hm⟩ := D.ex
  exact ⟨f, fd, ps, F.okX S len (hbody f), hm, F.kp, F.binds b⟩
theorem met0 (D : Mtd K C m q st) (c : Cls K C) (S : FnScope N ps (defScope st)) (len : ∀ vs H Q E, sp vs H Q E → vs.length = ps.length)
    (b : ∀ (kV doc pm : Value) (an : Option Addr) (cdv ct : Value) (us : List Value), us.length = ps.length → bindArgs (PySem.W.fnOf m q (defArgs st) (defBody st) (defScope st) .none kV doc pm an cdv ct) ⟨us, []⟩ = pure (ps.zip us))
    (hbody : ∀ (f : Addr) (cdv : Value) (A : Around) (outer : List Env) (s : Shared) (H : Hp) (vs : List V) (Q : VK) (E : XK), Room k (A.deeper (envOfC q (defScope st) s.heap.objs.size f cdv)) → sp vs H Q E →
      ∃ t, PSs (cxOf L2.CX0 P w K mg base N q (defScope st) f cdv A outer s H E).nox (defBody st) t ∧ t { nx := fun _ H' => Q .non H', rt := Q } (L2.start N vs) H) : Met P w K mg base L2.CX0 (k + 1) C m sp := by
  obtain ⟨f, fd, F, hm⟩ := D.ex
  exact ⟨f, fd, ps, c, hm, F.ok S len (hbody f), F.binds b⟩
theorem metX (D : Mtd K C m q st) (c : Cls K C) (S : FnScope N ps (defScope st)) (len : ∀ vs H Q E, sp vs H Q E → vs.length = ps.length)
    (b : ∀ (kV doc pm : Value) (an : Option Addr) (cdv ct : Value) (us : List Value), us.length = ps.length → bindArgs (PySem.W.fnOf m q (defArgs st) (defBody st) (defScope st) .none kV doc pm an cdv ct) ⟨us, []⟩ = pure (ps.zip us))
    (hbody : ∀ (f : Addr) (cdv : Value) (A : Around) (outer : List Env) (s : Shared) (H : Hp) (vs : List V) (Q : VK) (E : XK), Room k (A.deeper (envOfC q (defScope st) s.heap.objs.size f cdv)) → sp vs H Q E →
      ∃ t, PSs (cxOf (L2.CX P w) P w K mg base N q (defScope st) f cdv A outer s H E) (defBody st) t ∧ t { nx := fun _ H' => Q .non H', rt := Q } (L2.start N vs) H) : Met P w K mg base (L2.CX P w) (k + 1) C m sp := by
  obtain ⟨f, fd, F, hm⟩ := D.ex
  exact ⟨f, fd, ps, c, hm, F.okX S len (hbody f), F.binds b⟩
end
section
variable {X : Cx} {CX : CXT} {k j : Nat} {C : Addr} {x m : Str} {sp : Sp} {E : XK} {p pos apos : Pos} {e o : Expr} {es : List Expr} {ta : TE} {t : TA}
theorem pe_k (c : Cal X.prog X.w X.K X.mg X.base CX k x sp) (hr : Room j X.A) (hk : k ≤ j) (hg : Gl X x) (hx : Passes CX X E) (ha : PA X (e :: es) t)
    (hdb : (x == ("__debug__" : Str)) = false := by decide) (he : starEach (e :: es) X.env = (false, eval e X.env) :: starEach es X.env := by rfl) (hpl : (backTo pos (starEach es X.env)).any (·.1) = false := by rfl) :
    PE X (.Call (.Name x p) (e :: es) [] pos) (tCall sp [] E t) := by
  obtain ⟨f, fd, ps, F, hm, kp, b⟩ := c.ex
  exact pe_call F (hr.mono hk) hg hm kp b .nil hx ha hdb he hpl
theorem pe_m {pl : Sem Bool} (c : Met X.prog X.w X.K X.mg X.base CX k C m sp) (hr : Room j X.A) (hk : k ≤ j) (hx : Passes CX X E) (he : PE X o ta) (ha : PA X (e :: es) t)
    (hst : starEach (e :: es) X.env = (false, eval e X.env) :: starEach es X.env := by rfl) (hpl : (backTo pos (starEach es X.env)).any (·.1) = false := by rfl)
    (ht : eval (.Call (.Attribute o m apos) (e :: es) [] pos) X.env = (do
      let ov ← eval o X.env
      standAt apos.atName
      let (f, first) ← holding [ov] (getMethod ov m pl)
      callWith pos f first (backTo pos (starEach (e :: es) X.env)) (backToKw pos (keywordEach [] X.env))) := by rfl) :
    PE X (.Call (.Attribute o m apos) (e :: es) [] pos) (tMeth C m sp [] E ta t) := by
  obtain ⟨f, fd, ps, cl, me, F, b⟩ := c.ex
  exact pe_meth he cl me F (hr.mono hk) b .nil hx ha hst hpl ht
theorem pe_m0 {pl : Sem Bool} (c : Met X.prog X.w X.K X.mg X.base CX k C m sp) (hr : Room j X.A) (hk : k ≤ j) (hx : Passes CX X E) (he : PE X o ta)
    (ht : eval (.Call (.Attribute o m apos) [] [] pos) X.env = (do
      let ov ← eval o X.env
      standAt apos.atName
      let (f, first) ← holding [ov] (getMethod ov m pl)
      callWith pos f first (backTo pos (starEach [] X.env)) (backToKw pos (keywordEach [] X.env))) := by rfl) :
    PE X (.Call (.Attribute o m apos) [] [] pos) (tMeth C m sp [] E ta tNil) := by
  obtain ⟨f, fd, ps, cl, me, F, b⟩ := c.ex
  exact pe_meth0 he cl me F (hr.mono hk) b .nil hx ht
end
end Rb
set_option maxRecDepth 100000
set_option maxHeartbeats 4000000
namespace Rb
open PySem PySem.Spec PyProof.Rows L2 SX RbR
open TL (numL)
/-! ### a written dict by its table -/
def DTab (K : PySem.W.Frag) (w : World) (d : Addr) (tab : List (Str × V)) : Prop :=
  ∃ es n, K.lookup d = some ⟨.type "dict", none, .dict es n, #[]⟩ ∧ PySem.W.KeysLit w.params es.toList ∧ (d == sysModules) = false ∧ Paired (fun (e : DictEntry) (p : Str × V) => (∃ t, e.key = .str p.1 t) ∧ RelV p.2 e.val) es.toList tab
theorem find_tab (z : Str) : ∀ {l : List DictEntry} {tab : List (Str × V)}, Paired (fun (e : DictEntry) (p : Str × V) => (∃ t, e.key = .str p.1 t) ∧ RelV p.2 e.val) l tab →
    l.any (·.refKey) = false ∧ ((l.find? (·.key.isStr z) = none ∧ tab.lookup z = none) ∨ ∃ e v, l.find? (·.key.isStr z) = some e ∧ tab.lookup z = some v ∧ RelV v e.val)
  | [], _, h => by
    cases h
    exact ⟨rfl, .inl ⟨rfl, rfl⟩⟩
  | e :: l, _, h => by
    cases h with
    | @cons _ p _ tab h r =>
      obtain ⟨⟨t, ek⟩, ev⟩ := h
      obtain ⟨r1, r2⟩ := find_tab z r
      obtain ⟨k, v⟩ := p
      have e1 : e.refKey = false := by
        unfold DictEntry.refKey
        rw [ek]
      refine ⟨by rw [List.any_cons, e1, r1]; rfl, ?_⟩
      have e2 : e.key.isStr z = (z == k) := by
        rw [PySem.W.isStr_of, ek]
        show Value.isStrOf z (.str k t) = _
        unfold Value.isStrOf
        first | rfl | exact Bool.beq_comm
      rw [List.find?_cons, List.lookup_cons, e2]
      cases q : (z == k) with
      | true => exact .inr ⟨e, v, rfl, rfl, ev⟩
      | false => exact r2
theorem DTab.at {K : PySem.W.Frag} {w : World} {d : Addr} {tab : List (Str × V)} (D : DTab K w d tab) (z : Str) : ∃ es n r, KDict K w d es n ∧ PySem.W.nsIn K d z = some r ∧ ((r = none ∧ tab.lookup z = none) ∨ ∃ u v, r = some u ∧ tab.lookup z = some v ∧ RelV v u) := by
  obtain ⟨es, n, hl, hk, hs, hp⟩ := D
  obtain ⟨h1, h2⟩ := find_tab z hp
  have e : ∀ r, (match es.toList.find? (·.key.isStr z) with | some e => some (some e.val) | none => if es.toList.any (·.refKey) then none else some none) = some r → PySem.W.nsIn K d z = some r := fun r q => by
    unfold PySem.W.nsIn
    rw [hl]
    exact q
  rcases h2 with ⟨a, b⟩ | ⟨en, v, a, b, c⟩
  · exact ⟨es, n, none, ⟨hl, hk, hs⟩, e _ (by rw [a, h1]; rfl), .inl ⟨rfl, b⟩⟩
  · exact ⟨es, n, some en.val, ⟨hl, hk, hs⟩, e _ (by rw [a]), .inr ⟨_, v, rfl, b, c⟩⟩
theorem DTab.kd {K : PySem.W.Frag} {w : World} {d : Addr} {tab : List (Str × V)} (D : DTab K w d tab) : ∃ es n, KDict K w d es n := by
  obtain ⟨es, n, hl, hk, hs, hp⟩ := D
  exact ⟨es, n, hl, hk, hs⟩
theorem DTab.keys {K : PySem.W.Frag} {w : World} {d : Addr} {tab : List (Str × V)} (D : DTab K w d tab) : DKeys K w d (tab.map (·.1)) := by
  obtain ⟨es, n, hl, hk, hs, hp⟩ := D
  have hlen := Paired.length hp
  refine ⟨es, n, hl, hk, hs, by simpa using hlen, fun i k e => ?_⟩
  rw [List.getElem?_map] at e
  cases q : tab[i]? with
  | none => rw [q] at e; cases e
  | some p =>
    rw [q] at e
    cases e
    have hi : i < es.toList.length := by
      obtain ⟨h, _⟩ := List.getElem?_eq_some_iff.mp q
      omega
    have key : ∀ {l : List DictEntry} {tb : List (Str × V)} (i : Nat), Paired (fun (e : DictEntry) (p : Str × V) => (∃ t, e.key = .str p.1 t) ∧ RelV p.2 e.val) l tb → tb[i]? = some p → ∃ en t, l[i]? = some en ∧ en.key = .str p.1 t := by
      intro l tb i h
      induction h generalizing i with
      | nil => intro e; cases e
      | @cons e p' l tb h r ih =>
        intro q
        cases i with
        | zero =>
          cases q
          obtain ⟨t, ek⟩ := h.1
          exact ⟨e, t, rfl, ek⟩
        | succ i => exact ih i q
    obtain ⟨en, t, h1, h2⟩ := key i hp q
    exact ⟨en, t, by simpa using h1, h2⟩
/-! ### what the top has written -/
structure Ads where
  cr : Addr
  c1 : Addr
  c4 : Addr
  c5 : Addr
  c6 : Addr
  dp : Addr
  dl : Addr
  df : Addr
  zr : Addr
abbrev tPairs : List (Str × V) := [("join", .str "|"), ("sum", .str "+"), ("difference", .str "-"), ("product", .str "*"), ("quotient", .str "/")]
abbrev tLevels : List (Str × V) := [("join", .int 1), ("sum", .int 2), ("difference", .int 2), ("product", .int 3), ("quotient", .int 3), ("negative", .int 4), ("power", .int 5)]
abbrev tForms : List (Str × V) := [("roots", .str "p"), ("unity", .str "n"), ("map", .str "pe"), ("sums", .str "en"), ("products", .str "en"), ("distinct", .str "e"), ("common", .str "ee"), ("without", .str "ee")]
def inCls (i j : Nat) : Stmt := inClass (top i) j
/-- an own error: its class, its __init__ -/
structure ErrC (K : PySem.W.Frag) (mg : Str → Option Value) (C c1 : Addr) (x q fld : Str) (st : Stmt) : Prop where
  gC : mg x = some (.ref C)
  ox : OexC K C
  xf : XfC K C
  ini : ∃ (f : Addr) (fd : FuncData), L2.Fun K "__init__" q st f fd ∧ PySem.W.findIn K (.ref C) "__init__" = some (some (.ref f)) ∧ PySem.W.typeIn K (.ref f) = some (.type "function")
  nC : PySem.W.findIn K (.ref C) "code" = some none
  nF : PySem.W.findIn K (.ref C) fld = some none
  ex : PySem.W.exmOne K (.ref C) (.ref c1) = some true
structure Txt (w : World) (K : PySem.W.Frag) (mg : Str → Option Value) (a : Ads) : Prop where
  bAbs : mg "abs" = none
  bLen : mg "len" = none
  bTup : mg "tuple" = none
  bLst : mg "list" = none
  bInt : mg "int" = none
  bStr : mg "str" = none
  bSum : mg "sum" = none
  bIsi : mg "isinstance" = none
  bEnu : mg "enumerate" = none
  bZip : mg "zip" = none
  bRng : mg "range" = none
  bVE : mg "ValueError" = none
  veI : PySem.W.findCls K (.type "ValueError") (.type "type") "__init__" = some (.val (.builtin "ValueError.__init__"))
  cDig : ∃ u, mg "DIGITS" = some u ∧ RelV (.str "0123456789") u
  cFig : ∃ u, mg "MAX_FIGURES" = some u ∧ RelV (.int 100) u
  cLet : ∃ u, mg "LETTERS" = some u ∧ RelV (.str "abcdefghijklmnopqrstuvwxyz") u
  cTxt : ∃ u, mg "MAX_TEXT" = some u ∧ RelV (.int 400) u
  cOpn : ∃ u, mg "MAX_OPEN" = some u ∧ RelV (.int 20) u
  cNod : ∃ u, mg "MAX_NODES" = some u ∧ RelV (.int 60) u
  cZro : ∃ u, mg "ZERO" = some u ∧ RelV (.ref a.zr) u
  zro : ∀ H, SqT K H a.zr [.int 0, .int 1]
  gPr : ∃ u, mg "PAIRS" = some u ∧ RelV (.ref a.dp) u
  gLv : ∃ u, mg "LEVELS" = some u ∧ RelV (.ref a.dl) u
  gFm : ∃ u, mg "FORMS" = some u ∧ RelV (.ref a.df) u
  dPr : DTab K w a.dp tPairs
  dLv : DTab K w a.dl tLevels
  dFm : DTab K w a.df tForms
  g1 : ∃ u, mg "BagError" = some u ∧ RelV (.ref a.c1) u
  e1 : ClX.CRead K a.c1 (.type "type")
  i1 : ∃ (f : Addr) (fd : FuncData), L2.Fun K "__init__" "BagError.__init__" (inCls 1 0) f fd ∧ PySem.W.findCls K (.ref a.c1) (.type "type") "__init__" = some (.val (.ref f))
  m1 : mg "BagError" = some (.ref a.c1)
  e4 : ErrC K mg a.c4 a.c1 "InvalidText" "InvalidText.__init__" "position" (inCls 4 0)
  e5 : ErrC K mg a.c5 a.c1 "NestingTooDeep" "NestingTooDeep.__init__" "limit" (inCls 5 0)
  e6 : ErrC K mg a.c6 a.c1 "TermTooLarge" "TermTooLarge.__init__" "limit" (inCls 6 0)
  d11 : Dfn K mg "common_divisor" (top 11)
  d12 : Dfn K mg "lowest" (top 12)
  d13 : Dfn K mg "text_of" (top 13)
  d15 : Dfn K mg "trimmed" (top 15)
  d24 : Dfn K mg "run_of" (top 24)
  d25 : Dfn K mg "tokens_of" (top 25)
  d27 : Dfn K mg "node_count" (top 27)
  d28 : Dfn K mg "parts_of" (top 28)
  d29 : Dfn K mg "parse_term" (top 29)
  d30 : Dfn K mg "tree_of" (top 30)
  d31 : Dfn K mg "numbers_text" (top 31)
  d32 : Dfn K mg "wrapped" (top 32)
  d33 : Dfn K mg "item_text" (top 33)
  d34 : Dfn K mg "format_term" (top 34)
  d36 : Dfn K mg "_law_draws" (top 36)
  d37 : Dfn K mg "_law_draw" (top 37)
  d38 : Dfn K mg "_law_pick" (top 38)
  d39 : Dfn K mg "_law_field" (top 39)
  d40 : Dfn K mg "_law_try" (top 40)
  d41 : Dfn K mg "_law_gcd" (top 41)
  d42 : Dfn K mg "_law_low" (top 42)
  d43 : Dfn K mg "_law_trim" (top 43)
  d44 : Dfn K mg "_law_value" (top 44)
  d45 : Dfn K mg "_law_tree" (top 45)
  d46 : Dfn K mg "_law_number_text" (top 46)
  d47 : Dfn K mg "_law_numbers_text" (top 47)
  d48 : Dfn K mg "_law_level" (top 48)
  d49 : Dfn K mg "_law_operand" (top 49)
  d50 : Dfn K mg "_law_text" (top 50)
  d51 : Dfn K mg "_law_parts" (top 51)
  d52 : Dfn K mg "_law_nodes" (top 52)
  d53 : Dfn K mg "_law_term_names" (top 53)
  d54 : Dfn K mg "_law_wanted_tree" (top 54)
  d55 : Dfn K mg "_law_bent_text" (top 55)
  d56 : Dfn K mg "law" (top 56)
  cl : Cls K a.cr
  nTok : NoAttr K a.cr "tokens"
  nAt : NoAttr K a.cr "at"
  nOpn : NoAttr K a.cr "opened"
  gR : mg "Reader" = some (.ref a.cr)
  rIni : ∃ (f : Addr) (fd : FuncData), L2.Fun K "__init__" "Reader.__init__" (inCls 26 0) f fd ∧ Mk K a.cr f
  r1 : Mtd K a.cr "token" "Reader.token" (inCls 26 1)
  r2 : Mtd K a.cr "fail" "Reader.fail" (inCls 26 2)
  r3 : Mtd K a.cr "take" "Reader.take" (inCls 26 3)
  r4 : Mtd K a.cr "enter" "Reader.enter" (inCls 26 4)
  r5 : Mtd K a.cr "leave" "Reader.leave" (inCls 26 5)
  r6 : Mtd K a.cr "natural" "Reader.natural" (inCls 26 6)
  r7 : Mtd K a.cr "rational" "Reader.rational" (inCls 26 7)
  r8 : Mtd K a.cr "numbers" "Reader.numbers" (inCls 26 8)
  r9 : Mtd K a.cr "term" "Reader.term" (inCls 26 9)
  r10 : Mtd K a.cr "signed" "Reader.signed" (inCls 26 10)
  r11 : Mtd K a.cr "atom" "Reader.atom" (inCls 26 11)
  r12 : Mtd K a.cr "argument" "Reader.argument" (inCls 26 12)
end Rb
set_option maxRecDepth 100000
set_option maxHeartbeats 4000000
namespace Rb
open PySem PySem.Spec PyProof.Rows L2 SX RbR
open TL (numL)
section
variable {X : Cx} {d : Addr} {tab : List (Str × V)}
theorem op_in_tab (D : DTab X.K X.w d tab) : OpR X (compareOp .In) (fun x y H Q => ∃ z, x = .str z ∧ y = .ref d ∧ Q (.bl (tab.lookup z).isSome) H) := by
  intro pins s σ H x y v u Q I rx ry h
  obtain ⟨z, rfl, rfl, q⟩ := h
  obtain ⟨es, n, r, kd, e, h⟩ := D.at z
  refine op_in_kd kd pins s σ H _ _ v u Q I rx ry ⟨z, r, rfl, rfl, e, ?_⟩
  rcases h with ⟨rfl, e2⟩ | ⟨u, v, rfl, e2, _⟩
  · rw [e2] at q; exact q
  · rw [e2] at q; exact q
theorem op_notIn_tab (D : DTab X.K X.w d tab) : OpR X (compareOp .NotIn) (fun x y H Q => ∃ z, x = .str z ∧ y = .ref d ∧ Q (.bl (!(tab.lookup z).isSome)) H) := by
  intro pins s σ H x y v u Q I rx ry h
  obtain ⟨z, rfl, rfl, q⟩ := h
  obtain ⟨es, n, r, kd, e, h⟩ := D.at z
  refine op_notIn_kd kd pins s σ H _ _ v u Q I rx ry ⟨z, r, rfl, rfl, e, ?_⟩
  rcases h with ⟨rfl, e2⟩ | ⟨u, v, rfl, e2, _⟩
  · rw [e2] at q; exact q
  · rw [e2] at q; exact q
theorem ix_tab (D : DTab X.K X.w d tab) : IxR X (fun x y H Q => ∃ z v, x = .ref d ∧ y = .str z ∧ tab.lookup z = some v ∧ Q v H) := by
  intro value slice pins s σ H x y v u Q I rx ry h hs
  obtain ⟨z, v0, rfl, rfl, e1, q⟩ := h
  obtain ⟨es, n, r, kd, e, h⟩ := D.at z
  rcases h with ⟨rfl, e2⟩ | ⟨u0, v1, rfl, e2, rel⟩
  · rw [e1] at e2; cases e2
  · rw [e1] at e2
    cases e2
    exact ix_kdict value slice pins s σ H _ _ v u Q I rx ry ⟨d, z, v0, rfl, rfl, ⟨es, n, u0, kd.at_, kd.lit, e, rel⟩, q⟩ hs
theorem pe_tget {o e f : Expr} {td ty tx : TE} {apos cpos : Pos} (D : DTab X.K X.w d tab) (ho : PE X o td) (he : PE X e ty) (hf : PE X f tx) (m : M2 X o "get" apos e f cpos) : PE X (.Call (.Attribute o "get" apos) [e, f] [] cpos)
    (fun σ H Q => td σ H fun a H1 => a = .ref d ∧ ty σ H1 fun y H2 => tx σ H2 fun dv H3 => ∃ z, y = .str z ∧ Q ((tab.lookup z).getD dv) H3) := by
  obtain ⟨es, n, kd⟩ := D.kd
  refine ⟨fun pins s σ H Q I h => ?_⟩
  refine wpAny_Call_method m.base m.few m.line PySem.F.plainAttrs_dict PySem.F.slot_dict_get PySem.F.type_dict_get (thn (ho.run pins s σ H _ I h) fun u s1 ⟨x, H1, I1, rx, ex, q1⟩ => ?_)
  subst ex
  obtain rfl : u = Value.ref d := rx
  have hm := PySem.W.mapOf_K (prog := X.prog) (w := X.w) I1.kIn kd.at_ kd.lit
  refine ⟨hm.typeIs, hm.noDict, ?_⟩
  rw [m.trees]
  refine Calls.callWith_builtin rfl (Calls.evalArgs_plain (Calls.spliced_cons (thn (he.run pins s1 σ H1 _ I1 q1) fun iv s2 ⟨y, H2, I2, ry, q2⟩ =>
    Calls.spliced_cons (thn (hf.run pins s2 σ H2 _ I2 q2) fun fv s3 ⟨dv, H3, I3, rz, z, ey, q3⟩ => Calls.spliced_nil ?_))))
  subst ey
  obtain ⟨t, rfl⟩ := ry
  obtain ⟨es', n', r, kd', e, hr⟩ := D.at z
  have hm3 := PySem.W.mapOf_K (prog := X.prog) (w := X.w) I3.kIn kd'.at_ kd'.lit
  refine call_meetsIn PySem.F.slot_dict_get hm3.typeIs PySem.F.entry_dict_get (PySem.F.args_dict_get_3 _ _ _) (meets_dict_get_default (strKind X.prog X.w) d (strKind_is X.prog X.w z t) kd'.low fv) ⟨_, hm3, ?_⟩
  rw [PySem.W.find_K kd'.at_ e]
  rcases hr with ⟨rfl, e2⟩ | ⟨u, v, rfl, e2, ru⟩
  · rw [e2] at q3
    exact ⟨dv, H3, I3.tok _, rz, q3⟩
  · rw [e2] at q3
    exact ⟨v, H3, I3.tok _, ru, q3⟩
def rEqL0 (neg : Bool) : R2 := fun x y H Q => ∃ a b xs, x = .ref a ∧ y = .ref b ∧ H a = some (.lst xs) ∧ H b = some (.lst []) ∧ Q (.bl (if neg then !xs.isEmpty else xs.isEmpty)) H
theorem op_eqL0 (hu : X.A.units < cLine) : OpR X (compareOp .Eq) (rEqL0 false) := by
  intro pins s σ H x y v u Q I rx ry h
  obtain ⟨a, b, xs, rfl, rfl, ha, hb, q⟩ := h
  obtain rfl : v = Value.ref a := rx
  obtain rfl : u = Value.ref b := ry
  obtain ⟨its, rv, ht, hz⟩ := I.list (SqL.of ha)
  obtain ⟨its2, rv2, ht2, hz2⟩ := I.list (SqL.of hb)
  cases rv2
  have hl := rv.length
  cases xs with
  | nil =>
    cases its with
    | nil => exact SeqAt.RcAt.lists (e := fun _ => true) ht.isList ht2.isList rfl hu (fun j h1 h2 => by simp at h2) X.prog X.w _ _ (fin_bl I q rfl)
    | cons _ _ => simp at hl
  | cons x xs =>
    cases its with
    | nil => simp at hl
    | cons _ _ => exact SeqAt.RcAt.lists_lengths ht.isList ht2.isList rfl hu X.prog X.w _ _ (fin_bl I q rfl)
theorem op_neL0 (hu : X.A.units < cLine) : OpR X (compareOp .NotEq) (rEqL0 true) := by
  intro pins s σ H x y v u Q I rx ry h
  obtain ⟨a, b, xs, rfl, rfl, ha, hb, q⟩ := h
  obtain rfl : v = Value.ref a := rx
  obtain rfl : u = Value.ref b := ry
  obtain ⟨its, rv, ht, hz⟩ := I.list (SqL.of ha)
  obtain ⟨its2, rv2, ht2, hz2⟩ := I.list (SqL.of hb)
  cases rv2
  have hl := rv.length
  cases xs with
  | nil =>
    cases its with
    | nil => exact SeqAt.RcNeAt.lists (e := fun _ => true) ht.isList ht2.isList rfl hu (fun j h1 h2 => by simp at h2) X.prog X.w _ _ (fin_bl I q rfl)
    | cons _ _ => simp at hl
  | cons x xs =>
    cases its with
    | nil => simp at hl
    | cons _ _ => exact SeqAt.RcNeAt.lists_lengths ht.isList ht2.isList rfl hu X.prog X.w _ _ (fin_bl I q rfl)
end
end Rb
set_option maxRecDepth 100000
set_option maxHeartbeats 4000000
namespace Rb
open PySem PySem.Spec PyProof.Rows L2 SX RbR
open TL (numL)
theorem ifT {b : Bool} {A B : Prop} (h : b = true) (x : A) : if b = true then A else B := by rw [if_pos h]; exact x
theorem ifF {b : Bool} {A B : Prop} (h : b = false) (x : B) : if b = true then A else B := by
  subst h
  exact x
theorem if2 {b : Bool} {A B : Prop} (h1 : b = true → A) (h2 : b = false → B) : if b = true then A else B := by
  cases b with
  | true => exact h1 rfl
  | false => exact h2 rfl
theorem deI {x y : Int} (h : x = y) : decide (V.int x = V.int y) = true := decide_eq_true (by rw [h])
theorem dnI {x y : Int} (h : x ≠ y) : decide (V.int x = V.int y) = false := decide_eq_false fun e => h (V.int.inj e)
theorem deS {x y : Str} (h : x = y) : decide (V.str x = V.str y) = true := decide_eq_true (by rw [h])
theorem dnS {x y : Str} (h : x ≠ y) : decide (V.str x = V.str y) = false := decide_eq_false fun e => h (V.str.inj e)
theorem nT {b : Bool} (h : b = false) : (!b) = true := by rw [h]; rfl
theorem nF {b : Bool} (h : b = true) : (!b) = false := by rw [h]; rfl
theorem szL {n : Nat} (h : n ≤ 100000) : n ≤ sizeLine := Nat.le_trans h (by decide)
theorem szLt {n : Nat} (h : n ≤ 100000) : n < sizeLine := Nat.lt_of_le_of_lt h (by decide)
theorem _root_.L2.Same.aw {H H1 : Hp} {p : Addr} {o : HO} (s : Same H H1) (h : H p = none) : Same H (upd H1 p o) := fun b u e => by rw [upd_ne (ne_of_none e h)]; exact s b u e
end Rb
set_option maxRecDepth 100000
set_option maxHeartbeats 4000000
namespace Rb
open PySem PySem.Spec PyProof.Rows L2 SX RbR
open TL (numL)
variable {P : Program} {w : World} {K : PySem.W.Frag} {mg : Str → Option Value} {base : Heap} {a : Ads}
/-! ### the greatest common divisor -/
def spGcd : Sp := fun vs H Q _ => ∃ x y : Int, vs = [.int x, .int y] ∧ Q (.int (Int.gcd x y : Nat)) H
theorem abs_nat (i : Int) : (if i < 0 then -i else i) = (i.natAbs : Int) := by
  split <;> omega
namespace D11
abbrev ST : Stmt := top 11
abbrev NS : List Str := ["one", "other"]
theorem S : FnScope NS ["one", "other"] (defScope ST) := ⟨rfl, rfl, rfl, by decide +kernel, rfl, by decide +kernel, by decide +kernel⟩
end D11
open D11 in
theorem c_common_divisor (T : Txt w K mg a) : Cal P w K mg base L2.CX0 1 "common_divisor" spGcd := by
  refine cal0 T.d11 S (fun vs H Q E h => ?_) (fun _ _ _ _ _ _ us hl => match us, hl with | [_, _], _ => rfl) (fun f cdv A outer s H vs Q E hr h => ?_)
  · obtain ⟨x, y, rfl, _⟩ := h; rfl
  obtain ⟨x, y, rfl, q⟩ := h
  refine ⟨_, (pss_cons (ps_par (i := 0) (j := 1) rfl S.nd rfl rfl (by decide) rfl rfl (pa_cons (pe_callB call_abs rfl T.bAbs (by decide +kernel) (pa_cons (pv 0) pa_nil)) (pa_cons (pe_callB call_abs rfl T.bAbs (by decide +kernel) (pa_cons (pv 1) pa_nil)) pa_nil)) rfl)
  (pss_cons (ps_while PassesOwn.never (pt_cmpR op_ne (pv 1) pe_int (nomark _))
    (pss_one (ps_par (i := 0) (j := 1) rfl S.nd rfl rfl (by decide) rfl rfl (pa_cons (pv 1) (pa_cons (pe_op op_mod (pv 0) (pv 1)) pa_nil)) rfl)))
  (pss_one (ps_ret (pv 0))))), ?_⟩
  refine ⟨_, rfl, _, rfl, _, rfl, _, rfl, _, _, rfl, ?_⟩
  rw [abs_nat, abs_nat]
  refine ⟨fun m σ H' => ∃ i j : Nat, σ = [some (.int i), some (.int j)] ∧ m = j ∧ Nat.gcd i j = Nat.gcd x.natAbs y.natAbs ∧ H' = H, ⟨_, x.natAbs, y.natAbs, rfl, rfl, rfl, rfl⟩, ?_⟩
  rintro m σ H' ⟨i, j, rfl, rfl, e, rfl⟩
  refine ⟨_, rfl, rfl, _, rfl, ?_⟩
  by_cases hj : m = 0
  · subst hj
    refine ifF rfl ⟨_, rfl, ?_⟩
    rw [Nat.gcd_zero_right] at e
    rw [e]
    exact q
  · refine ifT (nT (dnI (by omega))) ⟨fun σ' H1 => ∃ i j : Nat, j < m ∧ σ' = [some (.int i), some (.int j)] ∧ Nat.gcd i j = Nat.gcd x.natAbs y.natAbs ∧ H1 = H', fun σ' H1 ⟨i, j, hl, h1, h2, h3⟩ => ⟨j, hl, i, j, h1, rfl, h2, h3⟩, ?_⟩
    refine ⟨_, rfl, _, rfl, _, rfl, _, _, rfl, rfl, by omega, _, _, rfl, m, i % m, Nat.mod_lt _ (by omega), rfl, ?_, rfl⟩
    rw [Nat.gcd_comm m, ← Nat.gcd_rec, Nat.gcd_comm]
    exact e
/-! ### lowest terms -/
def spLow : Sp := fun vs H Q _ => ∃ x y : Int, vs = [.int x, .int y] ∧ 0 < y ∧ y < 2 ^ 400 ∧ ∀ p, H p = none → Q (.ref p) (upd H p (.tup [.int (low x y).1, .int (low x y).2]))
namespace D12
abbrev ST : Stmt := top 12
abbrev NS : List Str := ["numerator", "denominator", "shared"]
theorem S : FnScope NS ["numerator", "denominator"] (defScope ST) := ⟨rfl, rfl, rfl, by decide +kernel, rfl, by decide +kernel, by decide +kernel⟩
end D12
open D12 in
theorem c_lowest (T : Txt w K mg a) : Cal P w K mg base L2.CX0 2 "lowest" spLow := by
  have c_common_divisor := c_common_divisor (P := P) (base := base) T
  refine cal0 T.d12 S (fun vs H Q E h => ?_) (fun _ _ _ _ _ _ us hl => match us, hl with | [_, _], _ => rfl) (fun f cdv A outer s H vs Q E hr h => ?_)
  · obtain ⟨x, y, rfl, _⟩ := h; rfl
  obtain ⟨x, y, rfl, hy, hb, q⟩ := h
  refine ⟨_, (pss_cons (ps_if (pt_cmpR op_eq (pv 1) pe_int (nomark _))
    pss_never
    pss_nil)
  (pss_cons (ps_set (i := 2) S.nd rfl (Or.inl rfl) (pe_k c_common_divisor hr (by decide) rfl L2.pass0 (pa_cons (pv 0) (pa_cons (pv 1) pa_nil))))
  (pss_cons (ps_if (pt_cmpR op_lt (pv 1) pe_int (nomark _))
    (pss_one (ps_set (i := 2) S.nd rfl (Or.inl rfl) (pe_un un_neg (pv 2))))
    pss_nil)
  (pss_one (ps_ret (pe_tup (pa_cons (pe_op op_fdivW (pv 0) (pv 2)) (pa_cons (pe_op op_fdivW (pv 1) (pv 2)) pa_nil)))))))), ?_⟩
  refine ⟨_, rfl, rfl, _, rfl, ?_⟩
  refine ifF (dnI (by omega)) ⟨_, rfl, _, rfl, x, y, rfl, ?_⟩
  refine ⟨_, rfl, _, _, rfl, rfl, _, rfl, ?_⟩
  have hg : 0 < Int.gcd x y := Int.gcd_pos_of_ne_zero_right x (by omega)
  have hgy : Int.gcd x y ≤ y.natAbs := Int.gcd_le_natAbs_right x (by omega)
  have hd : CDivW x (Int.gcd x y : Nat) := wide_div (b := 400) (by omega) (by
    rw [Int.natAbs_natCast]
    omega) (by decide) (by decide)
  refine ifF (decide_eq_false (by omega)) ⟨_, rfl, _, rfl, _, _, rfl, rfl, hd, _, rfl, _, rfl, _, _, rfl, rfl, hd, (by show 2 ≤ sizeLine; decide), fun p hp => q p hp⟩
end Rb
set_option maxRecDepth 100000
set_option maxHeartbeats 4000000
namespace Rb
open PySem PySem.Spec PyProof.Rows L2 SX RbR
open TL (numL)
/-! ### texts of numbers -/
theorem lg {n : Nat} (h : n < 10 ^ 101) : n.log2 < 1920 := by
  by_cases h0 : n = 0
  · subst h0; decide
  · rw [Nat.log2_lt h0]
    exact Nat.lt_of_lt_of_le h (by decide +kernel)
theorem str_nat (n : Nat) : Str.ofString (toString n) = S (numL n) := num_S n
theorem str_int (i : Int) : Str.ofString (toString i) = S (intTx i) := by
  cases i with
  | ofNat n =>
    have e : intTx (Int.ofNat n) = numL n := by
      unfold intTx
      rw [if_neg (by show ¬ ((n : Int) < 0); omega)]
      rfl
    rw [e]
    exact num_S n
  | negSucc n =>
    have e : intTx (Int.negSucc n) = 45 :: numL (n + 1) := by
      unfold intTx
      rw [if_pos (Int.negSucc_lt_zero n)]
      rfl
    rw [e]
    apply TL.ext_tl
    rw [TL.tl_ofString]
    have e2 : (toString (Int.negSucc n)) = "-" ++ toString (n + 1) := rfl
    rw [e2]
    have e3 := congrArg TL.tl (num_S (n + 1))
    rw [TL.tl_ofString] at e3
    rw [String.toList_append, List.map_append]
    show [45] ++ _ = 45 :: numL (n + 1)
    rw [show (toString (n + 1)) = toString (((n + 1 : Nat)) : Int) from rfl, e3]
    simp
theorem emp : Str.empty = S [] := rfl
theorem emp_cat (x : Str) : Str.empty ++ x = x := by
  rw [← S_tl x, emp, S_cat]; rfl
abbrev NumOk (q : Rt) : Prop := q.1.natAbs < 10 ^ 101 ∧ q.2.natAbs < 10 ^ 101
theorem RtOk.num {q : Rt} (h : RtOk q) : NumOk q := ⟨Nat.lt_of_lt_of_le h.2.2.1 (by decide +kernel), Nat.lt_of_lt_of_le h.2.2.2 (by decide +kernel)⟩
theorem numL_len' {n : Nat} (h : n < 10 ^ 101) : (numL n).length ≤ 101 := TL.numL_len (by decide) h
theorem intTx_len {i : Int} (h : i.natAbs < 10 ^ 101) : (intTx i).length ≤ 102 := by
  have := numL_len' h
  unfold intTx
  split
  · rw [List.length_cons]; omega
  · omega
theorem numTx_len' {q : Rt} (h : NumOk q) : (numTx q).length ≤ 205 := by
  have h1 := intTx_len h.1
  have h2 := intTx_len h.2
  unfold numTx
  split
  · omega
  · rw [List.length_append, List.length_cons]; omega
variable {P : Program} {w : World} {K : PySem.W.Frag} {mg : Str → Option Value} {base : Heap} {a : Ads}
def spTxo : Sp := fun vs H Q _ => ∃ (v : V) (q : Rt), vs = [v] ∧ RtAt H v q ∧ NumOk q ∧ Q (.str (S (numTx q))) H
namespace D13
abbrev ST : Stmt := top 13
abbrev NS : List Str := ["part"]
theorem S : FnScope NS ["part"] (defScope ST) := ⟨rfl, rfl, rfl, by decide +kernel, rfl, by decide +kernel, by decide +kernel⟩
end D13
open D13 in
theorem c_text_of (T : Txt w K mg a) : Cal P w K mg base L2.CX0 1 "text_of" spTxo := by
  refine cal0 T.d13 S (fun vs H Q E h => ?_) (fun _ _ _ _ _ _ us hl => match us, hl with | [_], _ => rfl) (fun f cdv A outer s H vs Q E hr h => ?_)
  · obtain ⟨x, y, rfl, _⟩ := h; rfl
  obtain ⟨v, q, rfl, ⟨b, rfl, hb⟩, ok, k⟩ := h
  refine ⟨_, (pss_one (ps_ret (pe_ifExp (pt_cmpR op_eq (pe_ix ix_tup (pv 0) pe_int (fun _ _ => rfl)) pe_int (nomark _)) (pe_callTy call_str_int rfl T.bStr (by decide +kernel) (pa_cons (pe_ix ix_tup (pv 0) pe_int (fun _ _ => rfl)) pa_nil)) (pe_joined (.cons (pe_fmt (pe_ix ix_tup (pv 0) pe_int (fun _ _ => rfl))) (.cons pe_str (.cons (pe_fmt (pe_ix ix_tup (pv 0) pe_int (fun _ _ => rfl))) .nil))))))), ?_⟩
  have i0 := atI_nat (xs := [V.int q.1, V.int q.2]) (j := 0) rfl
  have i1 := atI_nat (xs := [V.int q.1, V.int q.2]) (j := 1) rfl
  refine ⟨_, rfl, b, _, _, _, rfl, rfl, SqT.of hb, i1, rfl, _, rfl, ?_⟩
  by_cases h1 : q.2 = 1
  · refine ifT (deI h1) ⟨_, rfl, b, _, _, _, rfl, rfl, SqT.of hb, i0, _, rfl, lg ok.1, ?_⟩
    rw [str_int]
    unfold numTx at k
    rw [if_pos h1] at k
    exact k
  · refine ifF (dnI h1) ⟨_, rfl, b, _, _, _, rfl, rfl, SqT.of hb, i0, .inr ⟨_, rfl, lg ok.1, _, rfl, ?_, _, rfl, ?_, _, rfl, b, _, _, _, rfl, rfl, SqT.of hb, i1, .inr ⟨_, rfl, lg ok.2, _, rfl, ?_, ?_⟩⟩⟩
    · rw [str_int, emp_cat, S_len]
      have := intTx_len ok.1
      exact szL (by omega)
    · rw [str_int, emp_cat]
      show (S (intTx q.1) ++ S [47]).length ≤ sizeLine
      rw [S_cat, S_len, List.length_append]
      have := intTx_len ok.1
      exact szL (by simp; omega)
    · rw [str_int, str_int, emp_cat]
      show (S (intTx q.1) ++ S [47] ++ S (intTx q.2)).length ≤ sizeLine
      rw [S_cat, S_cat, S_len, List.length_append, List.length_append]
      have h1 := intTx_len ok.1
      have h2 := intTx_len ok.2
      exact szL (by simp; omega)
    · rw [str_int, str_int, emp_cat]
      show Q (.str (S (intTx q.1) ++ S [47] ++ S (intTx q.2))) H
      rw [S_cat, S_cat]
      unfold numTx at k
      rw [if_neg h1] at k
      rw [List.append_assoc]
      exact k
/-! ### ", ".join -/
theorem joinL_len (S' : List Nat) (n : Nat) : ∀ l : List (List Nat), (∀ x ∈ l, x.length ≤ n) → (TL.joinL S' l).length ≤ l.length * (n + S'.length)
  | [], _ => Nat.zero_le _
  | [p], h => by
    have := h p List.mem_cons_self
    show p.length ≤ 1 * (n + S'.length)
    omega
  | p :: q :: r, h => by
    have ih := joinL_len S' n (q :: r) fun x hx => h x (List.mem_cons_of_mem _ hx)
    have h1 := h p List.mem_cons_self
    show (p ++ (S' ++ TL.joinL S' (q :: r))).length ≤ (r.length + 1 + 1) * (n + S'.length)
    rw [List.length_append, List.length_append, Nat.succ_mul]
    have e : (q :: r).length = r.length + 1 := rfl
    rw [e] at ih
    omega
theorem lens_sum : ∀ l : List (List Nat), (l.map (·.length)).sum ≤ (TL.joinL [44, 32] l).length
  | [] => Nat.le_refl _
  | [p] => by show p.length + 0 ≤ p.length; omega
  | p :: q :: r => by
    have ih := lens_sum (q :: r)
    show p.length + ((q :: r).map (·.length)).sum ≤ (p ++ ([44, 32] ++ TL.joinL [44, 32] (q :: r))).length
    rw [List.length_append, List.length_append]
    omega
theorem join_nums (qs : List Rt) : Txt.join (S [44, 32]) ((qs.map numTx).map S) = S (numsTx qs) := join_S [44, 32] (qs.map numTx)
theorem cs : (", " : Str) = S [44, 32] := rfl
theorem sum_le (n : Nat) : ∀ qs : List Rt, (∀ q ∈ qs, NumOk q) → n = qs.length → (((qs.map numTx).map S).map (·.length)).sum ≤ 205 * n
  | [], _, e => by subst e; exact Nat.zero_le _
  | q :: r, h, e => by
    subst e
    have ih := sum_le r.length r (fun x hx => h x (List.mem_cons_of_mem _ hx)) rfl
    have h1 := numTx_len' (h q List.mem_cons_self)
    rw [List.map_cons, List.map_cons, List.map_cons, List.sum_cons, S_len, List.length_cons]
    omega
/-- a list (not a tuple) of texts that grows: behind i turns -/
abbrev txs (qs : List Rt) : List V := (qs.map numTx).map fun t => V.str (S t)
theorem txs_snoc {qs : List Rt} {i : Nat} {q : Rt} (h : qs[i]? = some q) : txs (qs.take (i + 1)) = txs (qs.take i) ++ [.str (S (numTx q))] := by
  have e : qs.take (i + 1) = qs.take i ++ [q] := by
    rw [List.take_add_one, h]; rfl
  unfold txs
  rw [e, List.map_append, List.map_append]
  rfl
theorem txs_len (qs : List Rt) : (txs qs).length = qs.length := by simp [txs]
theorem rts_get {H : Hp} {vs : List V} {qs : List Rt} (h : RtsAt H vs qs) {i : Nat} {v : V} (e : vs[i]? = some v) : ∃ q, qs[i]? = some q ∧ RtAt H v q := paired_get h e
/-- the numbers stand in a tuple or a list -/
def NumsV (K : PySem.W.Frag) (H : Hp) (v : V) (qs : List Rt) : Prop := ∃ b vs, v = .ref b ∧ (H b = some (.tup vs) ∨ H b = some (.lst vs)) ∧ RtsAt H vs qs
def spNums : Sp := fun vs H Q _ => ∃ (v : V) (qs : List Rt), vs = [v] ∧ NumsT H v qs ∧ (∀ q ∈ qs, NumOk q) ∧ qs.length ≤ 1000 ∧ ∀ H', Same H H' → Q (.str (S (numsTx qs))) H'
namespace D31
abbrev ST : Stmt := top 31
abbrev NS : List Str := ["parts", "part"]
theorem S : FnScope NS ["parts"] (defScope ST) := ⟨rfl, rfl, rfl, by decide +kernel, rfl, by decide +kernel, by decide +kernel⟩
end D31
open D31 in
theorem c_numbers_text (T : Txt w K mg a) : Cal P w K mg base L2.CX0 2 "numbers_text" spNums := by
  have c_text_of := c_text_of (P := P) (base := base) T
  refine cal0 T.d31 S (fun vs H Q E h => ?_) (fun _ _ _ _ _ _ us hl => match us, hl with | [_], _ => rfl) (fun f cdv A outer s H vs Q E hr h => ?_)
  · obtain ⟨x, y, rfl, _⟩ := h; rfl
  obtain ⟨v, qs, rfl, ⟨b, vs, rfl, hb, hv⟩, ok, hl, k⟩ := h
  refine ⟨_, (pss_one (ps_ret (pe_join pe_str (pe_lc (own := [("part", 1)]) (g := (gName 1)) (tt := tYes) rfl S.nd (pi_tup (pv 0)) (blkOk_by (N := NS) (sc := defScope ST) (by decide +kernel)) (fun _ _ _ _ _ => pg_name (i := 1) S.nd rfl (Or.inl rfl)) (fun _ _ _ _ _ => pts_nil) (fun _ _ _ _ _ => (pe_k c_text_of hr (by decide) rfl L2.pass0 (pa_cons (pv 1) pa_nil))))))), ?_⟩
  have hlen := Paired.length hv
  refine ⟨⟨_, rfl⟩, _, rfl, b, rfl, ⟨vs, SqT.of hb⟩, fun D hD => lc_tup (K := K) (a := b) (xs := vs) (fun i H' => Same H H' ∧ H' D = some (.lst (txs (qs.take i)))) ⟨Same.new hD, upd_same⟩ (fun i H' _ h' => SqT.of (h'.1 b _ hb)) ?_ ?_⟩
  · intro i v H' hi ⟨sm, hD'⟩
    obtain ⟨q, hq, hr'⟩ := rts_get hv hi
    have hmem : q ∈ qs := List.mem_of_getElem? hq
    refine ⟨rfl, _, rfl, v, q, rfl, hr'.kt (L2.Same.kt sm), ok q hmem, _, hD', ?_, L2.Same.aw sm hD, ?_⟩
    · rw [txs_len, List.length_take]
      exact szLt (by omega)
    · rw [upd_same, txs_snoc hq]
  · rintro H' ⟨sm, hD'⟩
    rw [hlen, List.take_length] at hD'
    refine ⟨S [44, 32], D, (qs.map numTx).map S, rfl, rfl, .inl (SqL.of ?_), ?_, ?_⟩
    · rw [hD', List.map_map]; rfl
    · have h1 := sum_le qs.length qs ok rfl
      rw [List.length_map, List.length_map, S_len]
      show _ + _ * 2 ≤ _
      omega
    · rw [join_nums]
      exact k H' sm
end Rb
set_option maxRecDepth 100000
set_option maxHeartbeats 4000000
namespace Rb
open PySem PySem.Spec PyProof.Rows L2 SX RbR
open TL (numL)
variable {P : Program} {w : World} {K : PySem.W.Frag} {mg : Str → Option Value} {base : Heap} {a : Ads}
namespace D41
abbrev ST : Stmt := top 41
abbrev NS : List Str := ["_law_one", "_law_other"]
theorem S : FnScope NS ["_law_one", "_law_other"] (defScope ST) := ⟨rfl, rfl, rfl, by decide +kernel, rfl, by decide +kernel, by decide +kernel⟩
end D41
open D41 in
theorem c__law_gcd (T : Txt w K mg a) : Cal P w K mg base L2.CX0 1 "_law_gcd" spGcd := by
  refine cal0 T.d41 S (fun vs H Q E h => ?_) (fun _ _ _ _ _ _ us hl => match us, hl with | [_, _], _ => rfl) (fun f cdv A outer s H vs Q E hr h => ?_)
  · obtain ⟨x, y, rfl, _⟩ := h; rfl
  obtain ⟨x, y, rfl, q⟩ := h
  refine ⟨_, (pss_cons (ps_par (i := 0) (j := 1) rfl S.nd rfl rfl (by decide) rfl rfl (pa_cons (pe_callB call_abs rfl T.bAbs (by decide +kernel) (pa_cons (pv 0) pa_nil)) (pa_cons (pe_callB call_abs rfl T.bAbs (by decide +kernel) (pa_cons (pv 1) pa_nil)) pa_nil)) rfl)
  (pss_cons (ps_while PassesOwn.never (pt_cmpR op_ne (pv 1) pe_int (nomark _))
    (pss_one (ps_par (i := 0) (j := 1) rfl S.nd rfl rfl (by decide) rfl rfl (pa_cons (pv 1) (pa_cons (pe_op op_mod (pv 0) (pv 1)) pa_nil)) rfl)))
  (pss_one (ps_ret (pv 0))))), ?_⟩
  refine ⟨_, rfl, _, rfl, _, rfl, _, rfl, _, _, rfl, ?_⟩
  rw [abs_nat, abs_nat]
  refine ⟨fun m σ H' => ∃ i j : Nat, σ = [some (.int i), some (.int j)] ∧ m = j ∧ Nat.gcd i j = Nat.gcd x.natAbs y.natAbs ∧ H' = H, ⟨_, x.natAbs, y.natAbs, rfl, rfl, rfl, rfl⟩, ?_⟩
  rintro m σ H' ⟨i, j, rfl, rfl, e, rfl⟩
  refine ⟨_, rfl, rfl, _, rfl, ?_⟩
  by_cases hj : m = 0
  · subst hj
    refine ifF rfl ⟨_, rfl, ?_⟩
    rw [Nat.gcd_zero_right] at e
    rw [e]
    exact q
  · refine ifT (nT (dnI (by omega))) ⟨fun σ' H1 => ∃ i j : Nat, j < m ∧ σ' = [some (.int i), some (.int j)] ∧ Nat.gcd i j = Nat.gcd x.natAbs y.natAbs ∧ H1 = H', fun σ' H1 ⟨i, j, hl, h1, h2, h3⟩ => ⟨j, hl, i, j, h1, rfl, h2, h3⟩, ?_⟩
    refine ⟨_, rfl, _, rfl, _, rfl, _, _, rfl, rfl, by omega, _, _, rfl, m, i % m, Nat.mod_lt _ (by omega), rfl, ?_, rfl⟩
    rw [Nat.gcd_comm m, ← Nat.gcd_rec, Nat.gcd_comm]
    exact e
namespace D42
abbrev ST : Stmt := top 42
abbrev NS : List Str := ["_law_top", "_law_bottom", "_law_shared"]
theorem S : FnScope NS ["_law_top", "_law_bottom"] (defScope ST) := ⟨rfl, rfl, rfl, by decide +kernel, rfl, by decide +kernel, by decide +kernel⟩
end D42
open D42 in
theorem c__law_low (T : Txt w K mg a) : Cal P w K mg base L2.CX0 2 "_law_low" spLow := by
  have c__law_gcd := c__law_gcd (P := P) (base := base) T
  refine cal0 T.d42 S (fun vs H Q E h => ?_) (fun _ _ _ _ _ _ us hl => match us, hl with | [_, _], _ => rfl) (fun f cdv A outer s H vs Q E hr h => ?_)
  · obtain ⟨x, y, rfl, _⟩ := h; rfl
  obtain ⟨x, y, rfl, hy, hb, q⟩ := h
  refine ⟨_, (pss_cons (ps_set (i := 2) S.nd rfl (Or.inl rfl) (pe_k c__law_gcd hr (by decide) rfl L2.pass0 (pa_cons (pv 0) (pa_cons (pv 1) pa_nil))))
  (pss_cons (ps_if (pt_cmpR op_lt (pv 1) pe_int (nomark _))
    (pss_one (ps_set (i := 2) S.nd rfl (Or.inl rfl) (pe_un un_neg (pv 2))))
    pss_nil)
  (pss_one (ps_ret (pe_tup (pa_cons (pe_op op_fdivW (pv 0) (pv 2)) (pa_cons (pe_op op_fdivW (pv 1) (pv 2)) pa_nil))))))), ?_⟩
  refine ⟨_, rfl, _, rfl, x, y, rfl, ?_⟩
  refine ⟨_, rfl, _, _, rfl, rfl, _, rfl, ?_⟩
  have hg : 0 < Int.gcd x y := Int.gcd_pos_of_ne_zero_right x (by omega)
  have hgy : Int.gcd x y ≤ y.natAbs := Int.gcd_le_natAbs_right x (by omega)
  have hd : CDivW x (Int.gcd x y : Nat) := wide_div (b := 400) (by omega) (by
    rw [Int.natAbs_natCast]
    omega) (by decide) (by decide)
  refine ifF (decide_eq_false (by omega)) ⟨_, rfl, _, rfl, _, _, rfl, rfl, hd, _, rfl, _, rfl, _, _, rfl, rfl, hd, (by show 2 ≤ sizeLine; decide), fun p hp => q p hp⟩
namespace D46
abbrev ST : Stmt := top 46
abbrev NS : List Str := ["_law_part"]
theorem S : FnScope NS ["_law_part"] (defScope ST) := ⟨rfl, rfl, rfl, by decide +kernel, rfl, by decide +kernel, by decide +kernel⟩
end D46
open D46 in
theorem c__law_number_text (T : Txt w K mg a) : Cal P w K mg base L2.CX0 1 "_law_number_text" spTxo := by
  refine cal0 T.d46 S (fun vs H Q E h => ?_) (fun _ _ _ _ _ _ us hl => match us, hl with | [_], _ => rfl) (fun f cdv A outer s H vs Q E hr h => ?_)
  · obtain ⟨x, y, rfl, _⟩ := h; rfl
  obtain ⟨v, q, rfl, ⟨b, rfl, hb⟩, ok, k⟩ := h
  refine ⟨_, (pss_one (ps_ret (pe_op op_add_str (pe_callTy call_str_int rfl T.bStr (by decide +kernel) (pa_cons (pe_ix ix_tup (pv 0) pe_int (fun _ _ => rfl)) pa_nil)) (pe_ifExp (pt_cmpR op_ne (pe_ix ix_tup (pv 0) pe_int (fun _ _ => rfl)) pe_int (nomark _)) (pe_op op_add_str pe_str (pe_callTy call_str_int rfl T.bStr (by decide +kernel) (pa_cons (pe_ix ix_tup (pv 0) pe_int (fun _ _ => rfl)) pa_nil))) pe_str)))), ?_⟩
  have i0 := atI_nat (xs := [V.int q.1, V.int q.2]) (j := 0) rfl
  have i1 := atI_nat (xs := [V.int q.1, V.int q.2]) (j := 1) rfl
  have l1 := intTx_len ok.1
  have l2 := intTx_len ok.2
  refine ⟨_, rfl, b, _, _, _, rfl, rfl, SqT.of hb, i0, _, rfl, lg ok.1, ?_⟩
  refine ⟨_, rfl, b, _, _, _, rfl, rfl, SqT.of hb, i1, rfl, _, rfl, ?_⟩
  by_cases h1 : q.2 = 1
  · refine ifF (nF (deI h1)) ⟨_, _, rfl, rfl, ?_, ?_⟩
    · rw [str_int]
      show (S (intTx q.1) ++ S []).length ≤ sizeLine
      rw [S_cat, S_len, List.length_append]
      exact szL (by simp; omega)
    · rw [str_int]
      show Q (.str (S (intTx q.1) ++ S [])) H
      rw [S_cat, List.append_nil]
      unfold numTx at k
      rw [if_pos h1] at k
      exact k
  · refine ifT (nT (dnI h1)) ⟨_, rfl, b, _, _, _, rfl, rfl, SqT.of hb, i1, _, rfl, lg ok.2, _, _, rfl, rfl, ?_, _, _, rfl, rfl, ?_, ?_⟩
    · rw [str_int]
      show (S [47]).length + (S (intTx q.2)).length ≤ sizeLine
      rw [S_len, S_len]
      exact szL (by simp; omega)
    · rw [str_int, str_int]
      show (S (intTx q.1)).length + (S [47] ++ S (intTx q.2)).length ≤ sizeLine
      rw [S_cat, S_len, S_len, List.length_append]
      exact szL (by simp; omega)
    · rw [str_int, str_int]
      show Q (.str (S (intTx q.1) ++ (S [47] ++ S (intTx q.2)))) H
      rw [S_cat, S_cat]
      unfold numTx at k
      rw [if_neg h1] at k
      exact k
namespace D47
abbrev ST : Stmt := top 47
abbrev NS : List Str := ["_law_parts_here", "_law_part"]
theorem S : FnScope NS ["_law_parts_here"] (defScope ST) := ⟨rfl, rfl, rfl, by decide +kernel, rfl, by decide +kernel, by decide +kernel⟩
end D47
open D47 in
theorem c__law_numbers_text (T : Txt w K mg a) : Cal P w K mg base L2.CX0 2 "_law_numbers_text" spNums := by
  have c__law_number_text := c__law_number_text (P := P) (base := base) T
  refine cal0 T.d47 S (fun vs H Q E h => ?_) (fun _ _ _ _ _ _ us hl => match us, hl with | [_], _ => rfl) (fun f cdv A outer s H vs Q E hr h => ?_)
  · obtain ⟨x, y, rfl, _⟩ := h; rfl
  obtain ⟨v, qs, rfl, ⟨b, vs, rfl, hb, hv⟩, ok, hl, k⟩ := h
  refine ⟨_, (pss_one (ps_ret (pe_join pe_str (pe_lc (own := [("_law_part", 1)]) (g := (gName 1)) (tt := tYes) rfl S.nd (pi_tup (pv 0)) (blkOk_by (N := NS) (sc := defScope ST) (by decide +kernel)) (fun _ _ _ _ _ => pg_name (i := 1) S.nd rfl (Or.inl rfl)) (fun _ _ _ _ _ => pts_nil) (fun _ _ _ _ _ => (pe_k c__law_number_text hr (by decide) rfl L2.pass0 (pa_cons (pv 1) pa_nil))))))), ?_⟩
  have hlen := Paired.length hv
  refine ⟨⟨_, rfl⟩, _, rfl, b, rfl, ⟨vs, SqT.of hb⟩, fun D hD => lc_tup (K := K) (a := b) (xs := vs) (fun i H' => Same H H' ∧ H' D = some (.lst (txs (qs.take i)))) ⟨Same.new hD, upd_same⟩ (fun i H' _ h' => SqT.of (h'.1 b _ hb)) ?_ ?_⟩
  · intro i v H' hi ⟨sm, hD'⟩
    obtain ⟨q, hq, hr'⟩ := rts_get hv hi
    have hmem : q ∈ qs := List.mem_of_getElem? hq
    refine ⟨rfl, _, rfl, v, q, rfl, hr'.kt (L2.Same.kt sm), ok q hmem, _, hD', ?_, L2.Same.aw sm hD, ?_⟩
    · rw [txs_len, List.length_take]
      exact szLt (by omega)
    · rw [upd_same, txs_snoc hq]
  · rintro H' ⟨sm, hD'⟩
    rw [hlen, List.take_length] at hD'
    refine ⟨S [44, 32], D, (qs.map numTx).map S, rfl, rfl, .inl (SqL.of ?_), ?_, ?_⟩
    · rw [hD', List.map_map]; rfl
    · have h1 := sum_le qs.length qs ok rfl
      rw [List.length_map, List.length_map, S_len]
      show _ + _ * 2 ≤ _
      omega
    · rw [join_nums]
      exact k H' sm
/-! ### zeros at the end -/
theorem trim_zero : ∀ p : List Rt, trim (p ++ [(0, 1)]) = trim p
  | [] => by simp [trim]
  | x :: p => by
    have ih := trim_zero p
    show trim (x :: (p ++ [(0, 1)])) = trim (x :: p)
    unfold trim
    rw [ih]
theorem trim_last {q : Rt} (h : q ≠ (0, 1)) : ∀ p : List Rt, trim (p ++ [q]) = p ++ [q]
  | [] => by simp [trim, h]
  | x :: p => by
    have ih := trim_last h p
    show trim (x :: (p ++ [q])) = x :: (p ++ [q])
    unfold trim
    rw [ih, if_neg (by simp)]
theorem take_snoc {α : Type} {l : List α} {n : Nat} {x : α} (h : l[n]? = some x) : l.take (n + 1) = l.take n ++ [x] := by
  rw [List.take_add_one, h]; rfl
theorem dp_rt {K : PySem.W.Frag} {H : Hp} {v : V} {q : Rt} (h : RtAt H v q) : Dp K H v (.tuple [.int q.1, .int q.2]) := by
  obtain ⟨b, rfl, hb⟩ := h
  exact .tup (SqT.of hb) (.cons (.int _) (.cons (.int _) .nil))
theorem eqv_rt (q r : Rt) : PyData.eqv (.tuple [.int q.1, .int q.2]) (.tuple [.int r.1, .int r.2]) = decide (q = r) := by
  simp [PyData.eqv, PyData.eqvAll, Prod.ext_iff]
  rfl
theorem rts_take {H : Hp} : ∀ {vs : List V} {qs : List Rt} (n : Nat), RtsAt H vs qs → RtsAt H (vs.take n) (qs.take n)
  | _, _, 0, _ => .nil
  | _, _, n + 1, .nil => .nil
  | _, _, n + 1, .cons h r => .cons h (rts_take n r)
theorem cut_to (xs : List V) (m : Nat) : cutV xs none (some (m : Int)) = xs.take m := by
  unfold cutV
  rw [HT.sIx_none, HT.sIx_nat, List.drop_zero, Nat.sub_zero]
  rcases Nat.le_total m xs.length with h | h
  · rw [Nat.min_eq_left h]
  · rw [Nat.min_eq_right h, List.take_of_length_le h, List.take_length]
theorem cut_from (xs : List V) (m : Nat) : cutV xs (some (m : Int)) none = xs.drop m := by
  unfold cutV
  rw [HT.sIx_none, HT.sIx_nat]
  rcases Nat.le_total m xs.length with h | h
  · rw [Nat.min_eq_left h, List.take_of_length_le (by simp)]
  · rw [Nat.min_eq_right h, Nat.sub_self, List.take_zero, List.drop_of_length_le h]
def spTrim : Sp := fun vs H Q _ => ∃ (l : Addr) (xs : List V) (qs : List Rt), vs = [.ref l] ∧ H l = some (.lst xs) ∧ RtsAt H xs qs ∧ qs.length ≤ 1000 ∧ ∀ H' v, Same H H' → NumsT H' v (trim qs) → Q v H'
namespace D15
abbrev ST : Stmt := top 15
abbrev NS : List Str := ["parts", "size"]
theorem S : FnScope NS ["parts"] (defScope ST) := ⟨rfl, rfl, rfl, by decide +kernel, rfl, by decide +kernel, by decide +kernel⟩
end D15
open D15 in
theorem c_trimmed (T : Txt w K mg a) : Cal P w K mg base L2.CX0 1 "trimmed" spTrim := by
  refine cal0 T.d15 S (fun vs H Q E h => ?_) (fun _ _ _ _ _ _ us hl => match us, hl with | [_], _ => rfl) (fun f cdv A outer s H vs Q E hr h => ?_)
  · obtain ⟨l, xs, qs, rfl, _⟩ := h; rfl
  obtain ⟨l, xs, qs, rfl, hx, hq, hl, k⟩ := h
  refine ⟨_, (pss_cons (ps_set (i := 1) S.nd rfl (Or.inl rfl) (pe_callB call_len_seq rfl T.bLen (by decide +kernel) (pa_cons (pv 0) pa_nil)))
  (pss_cons (ps_while PassesOwn.never (PW.pt (pw_and (pt_cmpR op_gt (pv 1) pe_int (nomark _)) (pw_and1 (pt_cmpR (op_eqD hr.units) (pe_ix ix_list (pv 0) (pe_op op_sub (pv 1) pe_int) (fun _ _ => rfl)) (C8.pe_gc rfl T.cZro) (nomark _)))))
    (pss_one (ps_aug (i := 1) S.nd rfl (Or.inl rfl) pe_int ip_sub)))
  (pss_one (ps_ret (pe_callTy call_tuple_of rfl T.bTup (by decide +kernel) (pa_cons (pe_slice sl_list (pv 0) po_none (po_some (pv 1))) pa_nil)))))), ?_⟩
  have hlen := Paired.length hq
  refine ⟨_, rfl, l, xs, rfl, .inl (SqL.of hx), ?_⟩
  refine ⟨fun m σ H' => H' = H ∧ m ≤ qs.length ∧ σ = [some (.ref l), some (.int m)] ∧ trim qs = trim (qs.take m), ⟨qs.length, rfl, Nat.le_refl _, by rw [← hlen]; rfl, by rw [List.take_length]⟩, ?_⟩
  rintro m σ H' ⟨rfl, hm, rfl, e⟩
  have done : qs.take m = trim (qs.take m) → ∀ p, H' p = none → ∀ q, upd H' p (.lst (cutV xs none (some (m : Int)))) q = none → Q (.ref q) (upd (upd H' p (.lst (cutV xs none (some (m : Int))))) q (.tup (cutV xs none (some (m : Int))))) := fun e2 p hp q hq2 => by
    refine k _ _ ((Same.new hp).trans (Same.new hq2)) ⟨q, xs.take m, rfl, by rw [upd_same, cut_to], ?_⟩
    rw [e, ← e2]
    exact RtsAt.kt ((Same.new hp).trans (Same.new hq2)).kt (rts_take m hq)
  refine ⟨_, rfl, _, _, rfl, rfl, _, rfl, ?_⟩
  cases m with
  | zero =>
    refine ifF rfl (ifF rfl ⟨_, rfl, _, rfl, _, rfl, l, xs, rfl, SqL.of hx, fun p hp => ⟨p, _, rfl, .inl ⟨SqL.of upd_same, fun q hq2 => done rfl p hp q hq2⟩⟩⟩)
  | succ n =>
    have hn : n < qs.length := hm
    obtain ⟨y, hy⟩ : ∃ y, qs[n]? = some y := ⟨qs[n], List.getElem?_eq_getElem hn⟩
    obtain ⟨v, hv⟩ : ∃ v, xs[n]? = some v := ⟨xs[n]'(by omega), List.getElem?_eq_getElem (by omega)⟩
    obtain ⟨y', hy', hr'⟩ := rts_get hq hv
    rw [hy] at hy'
    cases hy'
    refine ifT (decide_eq_true (by omega)) ⟨_, rfl, _, rfl, _, _, rfl, rfl, l, xs, _, v, rfl, rfl, SqL.of hx, at_of (j := n) (by omega) hv, _, .tuple [.int 0, .int 1], dp_rt hr', .tup (T.zro H') (.cons (.int _) (.cons (.int _) .nil)), rfl, rfl, _, rfl, ?_⟩
    rw [eqv_rt y (0, 1)]
    by_cases hz : y = (0, 1)
    · refine ifT (decide_eq_true hz) ⟨fun σ' H1 => H1 = H' ∧ σ' = [some (.ref l), some (.int (n : Nat))], fun σ' H1 ⟨h1, h2⟩ => ⟨n, Nat.lt_succ_self _, h1, by omega, h2, ?_⟩, _, rfl, _, _, rfl, rfl, rfl, ?_⟩
      · rw [e, take_snoc hy, hz, trim_zero]
      · show [some (V.ref l), some (V.int (((n + 1 : Nat) : Int) - 1))] = _
        rw [show (((n + 1 : Nat) : Int) - 1) = (n : Int) by omega]
    · refine ifF (decide_eq_false hz) ⟨_, rfl, _, rfl, _, rfl, l, xs, rfl, SqL.of hx, fun p hp => ⟨p, _, rfl, .inl ⟨SqL.of upd_same, fun q hq2 => done ?_ p hp q hq2⟩⟩⟩
      rw [take_snoc hy, trim_last hz]
end Rb
set_option maxRecDepth 100000
set_option maxHeartbeats 4000000
namespace Rb
open PySem PySem.Spec PyProof.Rows L2 SX RbR
open TL (numL)
variable {P : Program} {w : World} {K : PySem.W.Frag} {mg : Str → Option Value} {base : Heap} {a : Ads}
/-! ### slices of texts -/
theorem cutS_to (t : Tx) (m : Nat) : cutS (S t) none (some (m : Int)) = S (t.take m) := by
  unfold cutS
  rw [HT.sIx_none, HT.sIx_nat, S_len, List.drop_zero, Nat.sub_zero]
  show S (t.take (min m t.length)) = S (t.take m)
  rcases Nat.le_total m t.length with h | h
  · rw [Nat.min_eq_left h]
  · rw [Nat.min_eq_right h, List.take_of_length_le h, List.take_length]
theorem cutS_from (t : Tx) (m : Nat) : cutS (S t) (some (m : Int)) none = S (t.drop m) := by
  unfold cutS
  rw [HT.sIx_none, HT.sIx_nat, S_len]
  show S ((t.drop (min m t.length)).take (t.length - min m t.length)) = S (t.drop m)
  rcases Nat.le_total m t.length with h | h
  · rw [Nat.min_eq_left h, List.take_of_length_le (by simp)]
  · rw [Nat.min_eq_right h, Nat.sub_self, List.take_zero, List.drop_of_length_le h]
theorem cutS_mid (t : Tx) {n m : Nat} (h : n ≤ m) (hm : m ≤ t.length) : cutS (S t) (some (n : Int)) (some (m : Int)) = S ((t.drop n).take (m - n)) := by
  unfold cutS
  rw [HT.sIx_nat, HT.sIx_nat, S_len]
  show S ((t.drop (min n t.length)).take (min m t.length - min n t.length)) = _
  rw [Nat.min_eq_left hm, Nat.min_eq_left (Nat.le_trans h hm)]
theorem tlS (t : Tx) : (S t).cps.toList = t := by simp
/-! ### the signs from a place on -/
abbrev inS (sg : Tx) : Nat → Bool := fun c => decide (c ∈ sg)
def spRun : Sp := fun vs H Q _ => ∃ (t sg : Tx) (n : Nat), vs = [.str (S t), .int (n : Nat), .str (S sg)] ∧ n ≤ t.length ∧ t.length ≤ 1000 ∧ Q (.str (S ((t.drop n).takeWhile (inS sg)))) H
namespace D24
abbrev ST : Stmt := top 24
abbrev NS : List Str := ["text", "at", "signs", "end"]
theorem S : FnScope NS ["text", "at", "signs"] (defScope ST) := ⟨rfl, rfl, rfl, by decide +kernel, rfl, by decide +kernel, by decide +kernel⟩
end D24
theorem run_step {t : Tx} {p : Nat → Bool} {n e c : Nat} (hn : n ≤ e) (h : t[e]? = some c) (hp : p c = true) (k : (t.drop n).takeWhile p = (t.drop n).take (e - n) ++ (t.drop e).takeWhile p) :
    (t.drop n).takeWhile p = (t.drop n).take (e + 1 - n) ++ (t.drop (e + 1)).takeWhile p := by
  obtain ⟨he, hc⟩ := List.getElem?_eq_some_iff.mp h
  have e1 : t.drop e = c :: t.drop (e + 1) := by rw [← hc]; exact List.drop_eq_getElem_cons he
  rw [k, e1, List.takeWhile_cons, hp]
  have e2 : (t.drop n)[e - n]? = some c := by rw [List.getElem?_drop, show n + (e - n) = e by omega]; exact h
  rw [show e + 1 - n = e - n + 1 by omega, take_snoc e2, List.append_assoc]
  rfl
theorem run_stop {t : Tx} {p : Nat → Bool} {n e c : Nat} (h : t[e]? = some c) (hp : p c = false) (k : (t.drop n).takeWhile p = (t.drop n).take (e - n) ++ (t.drop e).takeWhile p) :
    (t.drop n).takeWhile p = (t.drop n).take (e - n) := by
  obtain ⟨he, hc⟩ := List.getElem?_eq_some_iff.mp h
  have e1 : t.drop e = c :: t.drop (e + 1) := by rw [← hc]; exact List.drop_eq_getElem_cons he
  rw [e1, List.takeWhile_cons, hp] at k
  simpa using k
open D24 in
theorem c_run_of (T : Txt w K mg a) : Cal P w K mg base L2.CX0 1 "run_of" spRun := by
  refine cal0 T.d24 S (fun vs H Q E h => ?_) (fun _ _ _ _ _ _ us hl => match us, hl with | [_, _, _], _ => rfl) (fun f cdv A outer s H vs Q E hr h => ?_)
  · obtain ⟨x, y, z, rfl, _⟩ := h; rfl
  obtain ⟨t, sg, n, rfl, hn, hl, k⟩ := h
  refine ⟨_, (pss_cons (ps_set (i := 3) S.nd rfl (Or.inl rfl) (pv 1))
  (pss_cons (ps_while PassesOwn.never (PW.pt (pw_and (pt_cmpR op_lt (pv 3) (pe_callB call_len_str rfl T.bLen (by decide +kernel) (pa_cons (pv 0) pa_nil)) (nomark _)) (pw_and1 (pt_cmpR op_in_sign (pe_ix ix_str (pv 0) (pv 3) (fun _ _ => rfl)) (pv 2) rfl))))
    (pss_one (ps_aug (i := 3) S.nd rfl (Or.inl rfl) pe_int ip_add)))
  (pss_one (ps_ret (pe_slice sl_str (pv 0) (po_some (pv 1)) (po_some (pv 3))))))), ?_⟩
  refine ⟨_, rfl, ?_⟩
  refine ⟨fun m σ H' => H' = H ∧ ∃ e : Nat, m = t.length - e ∧ e ≤ t.length ∧ n ≤ e ∧ σ = [some (.str (S t)), some (.int (n : Nat)), some (.str (S sg)), some (.int (e : Nat))] ∧ (t.drop n).takeWhile (inS sg) = (t.drop n).take (e - n) ++ (t.drop e).takeWhile (inS sg),
    ⟨_, rfl, n, rfl, hn, Nat.le_refl _, rfl, by simp⟩, ?_⟩
  rintro m σ H' ⟨rfl, e, rfl, he, hne, rfl, ke⟩
  have hz : (S t).length ≤ sizeLine := by rw [S_len]; exact szL (by omega)
  have out : (t.drop n).takeWhile (inS sg) = (t.drop n).take (e - n) → Q (.str (cutS (S t) (some (n : Int)) (some (e : Int)))) H' := fun q => by
    rw [cutS_mid t hne he, ← q]; exact k
  refine ⟨_, rfl, _, rfl, _, rfl, hz, _, _, rfl, rfl, _, rfl, ?_⟩
  rw [S_len]
  by_cases hlt : e < t.length
  · obtain ⟨c, hc⟩ : ∃ c, t[e]? = some c := ⟨t[e], List.getElem?_eq_getElem hlt⟩
    refine ifT (decide_eq_true (by omega)) ⟨_, rfl, _, rfl, _, _, c, rfl, rfl, hz, by rw [tlS]; exact atI_nat hc, _, rfl, _, _, rfl, rfl, _, rfl, ?_⟩
    rw [tlS]
    cases hp : inS sg c with
    | true =>
      refine ifT hp ⟨fun σ' H1 => H1 = H' ∧ σ' = [some (.str (S t)), some (.int (n : Nat)), some (.str (S sg)), some (.int ((e + 1 : Nat) : Int))], fun σ' H1 ⟨h1, h2⟩ => ⟨t.length - (e + 1), by omega, h1, e + 1, rfl, hlt, by omega, h2, run_step hne hc hp ke⟩, ?_⟩
      exact ⟨_, rfl, _, _, rfl, rfl, rfl, rfl⟩
    | false =>
      exact ifF hp ⟨_, rfl, _, rfl, _, rfl, _, rfl, _, rfl, _, rfl, hz, out (run_stop hc hp ke)⟩
  · have he2 : e = t.length := by omega
    refine ifF (decide_eq_false (by omega)) (ifF rfl ⟨_, rfl, _, rfl, _, rfl, _, rfl, _, rfl, _, rfl, hz, out ?_⟩)
    rw [ke, he2, List.drop_length]
    simp
end Rb
set_option maxRecDepth 100000
set_option maxHeartbeats 4000000
namespace Rb
open PySem PySem.Spec PyProof.Rows L2 SX RbR
open TL (numL)
variable {P : Program} {w : World} {K : PySem.W.Frag} {mg : Str → Option Value} {base : Heap} {a : Ads}
/-! ### tokens -/
def TokAt (H : Hp) (v : V) (t : Tx) : Prop := ∃ (b : Addr) (p : Int), v = .ref b ∧ H b = some (.tup [.int p, .str (S t)])
abbrev ToksV (H : Hp) : List V → List Tx → Prop := Paired (TokAt H)
def TAt (H : Hp) (l : Addr) (toks : List Tx) : Prop := ∃ vs, H l = some (.lst vs) ∧ ToksV H vs toks
theorem TokAt.kt {H H' : Hp} (k : KT H H') {v : V} {t : Tx} (h : TokAt H v t) : TokAt H' v t := by
  obtain ⟨b, p, e, h⟩ := h
  exact ⟨b, p, e, k b _ h⟩
theorem ToksV.kt {H H' : Hp} (k : KT H H') {vs : List V} {qs : List Tx} (h : ToksV H vs qs) : ToksV H' vs qs := Paired.mapP h fun _ _ r => r.kt k
theorem pa_app {α β : Type} {F : α → β → Prop} : ∀ {l : List α} {m : List β} {l' : List α} {m' : List β}, Paired F l m → Paired F l' m' → Paired F (l ++ l') (m ++ m')
  | _, _, _, _, .nil, h => h
  | _, _, _, _, .cons a r, h => .cons a (pa_app r h)
abbrev lets : Tx := [97, 98, 99, 100, 101, 102, 103, 104, 105, 106, 107, 108, 109, 110, 111, 112, 113, 114, 115, 116, 117, 118, 119, 120, 121, 122]
abbrev digs : Tx := [48, 49, 50, 51, 52, 53, 54, 55, 56, 57]
theorem e_let : ("abcdefghijklmnopqrstuvwxyz" : Str) = S lets := by decide +kernel
theorem e_dig : ("0123456789" : Str) = S digs := by decide +kernel
theorem mem_let (c : Nat) : decide (c ∈ lets) = isL c := by
  unfold isL
  rw [← Bool.decide_and]
  apply decide_eq_decide.mpr
  simp only [List.mem_cons, List.not_mem_nil, or_false]
  omega
theorem mem_dig (c : Nat) : decide (c ∈ digs) = isD c := by
  unfold isD
  rw [← Bool.decide_and]
  apply decide_eq_decide.mpr
  simp only [List.mem_cons, List.not_mem_nil, or_false]
  omega
theorem in_let : inS lets = isL := funext mem_let
theorem in_dig : inS digs = isD := funext mem_dig
theorem drop_take (p : Nat → Bool) : ∀ l : Tx, l.drop (l.takeWhile p).length = l.dropWhile p
  | [] => rfl
  | c :: r => by
    rw [List.takeWhile_cons, List.dropWhile_cons]
    split
    · exact drop_take p r
    · rfl
/-- the token at c :: r -/
def tok1 (c : Nat) (r : Tx) : Tx := if isL c = true then (c :: r).takeWhile isL else if isD c = true then (c :: r).takeWhile isD else [c]
theorem scan_step (c : Nat) (r : Tx) : scan (c :: r) = (if c = 32 then [] else [tok1 c r]) ++ scan ((c :: r).drop (tok1 c r).length) := by
  unfold tok1
  by_cases h1 : isL c = true
  · have hc : c ≠ 32 := fun e => by rw [e] at h1; cases h1
    rw [if_pos h1, if_neg hc, scan_L h1, drop_take, List.takeWhile_cons, List.dropWhile_cons, h1]
    rfl
  · by_cases h2 : isD c = true
    · have hc : c ≠ 32 := fun e => by rw [e] at h2; cases h2
      rw [if_neg h1, if_pos h2, if_neg hc, scan_D h2, drop_take, List.takeWhile_cons, List.dropWhile_cons, h2]
      rfl
    · rw [if_neg h1, if_neg h2]
      by_cases hc : c = 32
      · subst hc
        rw [if_pos rfl, scan_S]; rfl
      · rw [if_neg hc, scan_M (by simpa using h1) (by simpa using h2) hc]; rfl
theorem tok1_pos (c : Nat) (r : Tx) : 0 < (tok1 c r).length ∧ (tok1 c r).length ≤ (c :: r).length := by
  unfold tok1
  split
  · rename_i h
    rw [List.takeWhile_cons, h]
    exact ⟨Nat.succ_pos _, by simp; exact List.Sublist.length_le (List.takeWhile_sublist _)⟩
  · split
    · rename_i h
      rw [List.takeWhile_cons, h]
      exact ⟨Nat.succ_pos _, by simp; exact List.Sublist.length_le (List.takeWhile_sublist _)⟩
    · exact ⟨Nat.succ_pos _, by simp⟩
def spToks : Sp := fun vs H Q _ => ∃ (t : Tx), vs = [.str (S t)] ∧ t.length ≤ 900 ∧ ∀ H' l, Same H H' → H l = none → TAt H' l (scan t ++ [[]]) → Q (.ref l) H'
namespace D25
abbrev ST : Stmt := top 25
abbrev NS : List Str := ["text", "found", "at", "char", "token"]
theorem S : FnScope NS ["text"] (defScope ST) := ⟨rfl, rfl, rfl, by decide +kernel, rfl, by decide +kernel, by decide +kernel⟩
end D25
open D25 in
theorem c_tokens_of (T : Txt w K mg a) : Cal P w K mg base L2.CX0 2 "tokens_of" spToks := by
  have c_run_of := c_run_of (P := P) (base := base) T
  refine cal0 T.d25 S (fun vs H Q E h => ?_) (fun _ _ _ _ _ _ us hl => match us, hl with | [_], _ => rfl) (fun f cdv A outer s H vs Q E hr h => ?_)
  · obtain ⟨x, rfl, _⟩ := h; rfl
  obtain ⟨t, rfl, hl, k⟩ := h
  refine ⟨_, (pss_cons (ps_par (i := 1) (j := 2) rfl S.nd rfl rfl (by decide) rfl rfl (pa_cons (pe_lst pa_nil) (pa_cons pe_int pa_nil)) rfl)
  (pss_cons (ps_while PassesOwn.never (pt_cmpR op_lt (pv 2) (pe_callB call_len_str rfl T.bLen (by decide +kernel) (pa_cons (pv 0) pa_nil)) (nomark _))
    (pss_cons (ps_set (i := 3) S.nd rfl (Or.inl rfl) (pe_ix ix_str (pv 0) (pv 2) (fun _ _ => rfl)))
    (pss_cons (ps_set (i := 4) S.nd rfl (Or.inl rfl) (pv 3))
    (C8.pss_cut (ps_if (pt_cmpR op_in_sign (pv 3) (C8.pe_gc rfl T.cLet) rfl)
      (pss_one (ps_set (i := 4) S.nd rfl (Or.inl rfl) (pe_k c_run_of hr (by decide) rfl L2.pass0 (pa_cons (pv 0) (pa_cons (pv 2) (pa_cons (C8.pe_gc rfl T.cLet) pa_nil))))))
      (pss_one (ps_if (pt_cmpR op_in_sign (pv 3) (C8.pe_gc rfl T.cDig) rfl)
        (pss_one (ps_set (i := 4) S.nd rfl (Or.inl rfl) (pe_k c_run_of hr (by decide) rfl L2.pass0 (pa_cons (pv 0) (pa_cons (pv 2) (pa_cons (C8.pe_gc rfl T.cDig) pa_nil))))))
        pss_nil)))
    (C8.pss_cut (ps_if (pt_cmpR op_ne (pv 3) pe_str (nomark _))
      (pss_one (ps_expr (pe_bm PySem.F.plainAttrs_list PySem.F.slot_list_append PySem.F.type_list_append mt_append (pv 1) (pa_cons (pe_tup (pa_cons (pv 2) (pa_cons (pv 4) pa_nil))) pa_nil))))
      pss_nil)
    (pss_one (ps_aug (i := 2) S.nd rfl (Or.inl rfl) (pe_callB call_len_str rfl T.bLen (by decide +kernel) (pa_cons (pv 4) pa_nil)) ip_add)))))))
  (pss_one (ps_ret (pe_op op_cat (pv 1) (pe_lst (pa_cons (pe_tup (pa_cons (pe_callB call_len_str rfl T.bLen (by decide +kernel) (pa_cons (pv 0) pa_nil)) (pa_cons pe_str pa_nil))) pa_nil))))))), ?_⟩
  refine ⟨by decide, fun l hl0 => ⟨_, _, rfl, ?_⟩⟩
  have hz : (S t).length ≤ sizeLine := by rw [S_len]; exact szL (by omega)
  refine ⟨fun m σ H' => ∃ (i : Nat) (vs : List V) (toks : List Tx) (x y : Option V), m = t.length - i ∧ i ≤ t.length ∧ σ = [some (.str (S t)), some (.ref l), some (.int (i : Nat)), x, y] ∧ Same H H' ∧ H' l = some (.lst vs) ∧ ToksV H' vs toks ∧ toks.length ≤ i ∧ toks ++ scan (t.drop i) = scan t,
    ⟨_, 0, [], [], none, none, rfl, Nat.zero_le _, rfl, Same.new hl0, upd_same, .nil, Nat.le_refl _, rfl⟩, ?_⟩
  rintro m σ H1 ⟨i, vs, toks, x, y, rfl, hi, rfl, sm, hv, ht, hle, e⟩
  have hvl := Paired.length ht
  refine ⟨_, rfl, _, rfl, _, rfl, hz, _, _, rfl, rfl, _, rfl, ?_⟩
  rw [S_len]
  by_cases hlt : i < t.length
  · obtain ⟨c, hc⟩ : ∃ c, t[i]? = some c := ⟨t[i], List.getElem?_eq_getElem hlt⟩
    have ed : t.drop i = c :: t.drop (i + 1) := by
      obtain ⟨he, hc'⟩ := List.getElem?_eq_some_iff.mp hc
      rw [← hc']; exact List.drop_eq_getElem_cons he
    obtain ⟨p0, p1⟩ := tok1_pos c (t.drop (i + 1))
    have p2 : i + (tok1 c (t.drop (i + 1))).length ≤ t.length := by
      rw [List.length_cons, List.length_drop] at p1
      omega
    refine ifT (decide_eq_true (by omega)) ⟨fun σ' H' => ∃ (i' : Nat) (vs : List V) (toks : List Tx) (x y : Option V), i < i' ∧ i' ≤ t.length ∧ σ' = [some (.str (S t)), some (.ref l), some (.int (i' : Nat)), x, y] ∧ Same H H' ∧ H' l = some (.lst vs) ∧ ToksV H' vs toks ∧ toks.length ≤ i' ∧ toks ++ scan (t.drop i') = scan t,
      fun σ' H' ⟨i', vs, toks, x, y, h1, h2, h3, h4, h5, h6, h7, h8⟩ => ⟨t.length - i', by omega, i', vs, toks, x, y, rfl, h2, h3, h4, h5, h6, h7, h8⟩, ?_⟩
    refine ⟨_, rfl, _, rfl, _, _, c, rfl, rfl, hz, by rw [tlS]; exact atI_nat hc, _, rfl, ?_⟩
    refine ⟨fun σ' H' => H' = H1 ∧ σ' = [some (.str (S t)), some (.ref l), some (.int (i : Nat)), some (.str (S [c])), some (.str (S (tok1 c (t.drop (i + 1)))))], ?_, ?_⟩
    · refine ⟨_, rfl, c, _, rfl, rfl, _, rfl, ?_⟩
      rw [e_let, tlS, mem_let]
      cases h1 : isL c with
      | true =>
        refine ifT rfl ⟨_, rfl, _, rfl, t, lets, i, rfl, hi, by omega, rfl, ?_⟩
        rw [in_let, ed]
        unfold tok1
        rw [if_pos h1]
        rfl
      | false =>
        refine ifF rfl ⟨_, rfl, c, _, rfl, rfl, _, rfl, ?_⟩
        rw [e_dig, tlS, mem_dig]
        cases h2 : isD c with
        | true =>
          refine ifT rfl ⟨_, rfl, _, rfl, t, digs, i, rfl, hi, by omega, rfl, ?_⟩
          rw [in_dig, ed]
          unfold tok1
          rw [h1, if_neg (by decide), if_pos h2]
          rfl
        | false =>
          refine ifF rfl ⟨rfl, ?_⟩
          unfold tok1
          rw [h1, h2]
          rfl
    · rintro σ' H' ⟨rfl, rfl⟩
      have es := scan_step c (t.drop (i + 1))
      rw [← ed, List.drop_drop] at es
      refine ⟨fun σ' H1 => ∃ (vs : List V) (toks : List Tx), σ' = [some (.str (S t)), some (.ref l), some (.int (i : Nat)), some (.str (S [c])), some (.str (S (tok1 c (t.drop (i + 1)))))] ∧ Same H H1 ∧ H1 l = some (.lst vs) ∧ ToksV H1 vs toks ∧ toks.length ≤ i + 1 ∧ toks ++ scan (t.drop (i + (tok1 c (t.drop (i + 1))).length)) = scan t, ?_, ?_⟩
      · refine ⟨_, rfl, rfl, _, rfl, ?_⟩
        by_cases h32 : c = 32
        · refine ifF (nF (deS (by rw [h32]; rfl))) ⟨vs, toks, rfl, sm, hv, ht, by omega, ?_⟩
          rw [← e, es, if_pos h32]; rfl
        · refine ifT (nT (dnS fun q => h32 (by
            have q' : S [c] = S [32] := q
            have := S_inj q'
            simpa using this))) ⟨_, rfl, .inl ⟨rfl, _, SqL.of hv⟩, _, rfl, _, rfl, by show 2 ≤ sizeLine; decide, fun p hp => ⟨l, vs, _, rfl, rfl, ?_, ?_, ?_⟩⟩
          · rw [upd_ne (ne_of_none hv hp)]; exact hv
          · exact szLt (by omega)
          · have k1 : KT H' (upd (upd H' p (.tup [.int (i : Nat), .str (S (tok1 c (t.drop (i + 1))))])) l (.lst (vs ++ [.ref p]))) := fun b xs q => by
              have : b ≠ l := fun z => by rw [z, hv] at q; cases q
              rw [upd_ne this, upd_ne (ne_of_none q hp)]; exact q
            refine ⟨vs ++ [.ref p], toks ++ [tok1 c (t.drop (i + 1))], rfl, ?_, upd_same, pa_app (ToksV.kt k1 ht) (.cons ⟨p, (i : Int), rfl, ?_⟩ .nil), by simp; omega, ?_⟩
            · exact L2.Same.aw (L2.Same.trans sm (Same.new hp)) hl0
            · rw [upd_ne (fun z => by rw [z, hv] at hp; cases hp), upd_same]
            · rw [List.append_assoc, ← e, es, if_neg h32]
      · rintro σ' H2 ⟨vs2, toks2, rfl, sm2, hv2, ht2, hl2, e2⟩
        refine ⟨_, rfl, _, rfl, _, rfl, by rw [S_len]; exact szL (by omega), _, _, rfl, rfl, i + (tok1 c (t.drop (i + 1))).length, vs2, toks2, some (.str (S [c])), some (.str (S (tok1 c (t.drop (i + 1))))), by omega, p2, ?_, sm2, hv2, ht2, by omega, e2⟩
        rw [S_len]
        rfl
  · refine ifF (decide_eq_false (by omega)) ⟨_, rfl, _, rfl, _, rfl, hz, by show 2 ≤ sizeLine; decide, fun p hp => ⟨by show 1 ≤ sizeLine; decide, fun q hq => ⟨l, q, vs, _, rfl, rfl, ?_, upd_same, szL (by simp; omega), fun r hr' => k _ r ?_ ?_ ⟨_, upd_same, ?_⟩⟩⟩⟩
    · rw [upd_ne, upd_ne (ne_of_none hv hp)]
      · exact hv
      · intro z
        rw [← z, upd_ne (ne_of_none hv hp), hv] at hq
        cases hq
    · exact ((L2.Same.trans sm (Same.new hp)).trans (Same.new hq)).trans (Same.new hr')
    · exact Same.free ((L2.Same.trans sm (Same.new hp)).trans (Same.new hq)) hr'
    · have e0 : toks = scan t := by
        have : i = t.length := by omega
        rw [← e, this, List.drop_length, scan_nil, List.append_nil]
      rw [← e0]
      have k1 : Same H1 (upd (upd (upd H1 p (.tup [.int (S t).length, .str ""])) q (.lst [.ref p])) r (.lst (vs ++ [.ref p]))) := ((Same.new hp).trans (Same.new hq)).trans (Same.new hr')
      refine pa_app (ToksV.kt k1.kt ht) (.cons ⟨p, ((S t).length : Int), rfl, ?_⟩ .nil)
      exact ((Same.new hq).trans (Same.new hr')) p _ upd_same
end Rb
set_option maxRecDepth 100000
set_option maxHeartbeats 4000000
namespace Rb
open PySem PySem.Spec PyProof.Rows L2 SX RbR
open TL (numL)
variable {P : Program} {w : World} {K : PySem.W.Frag} {mg : Str → Option Value} {base : Heap} {a : Ads}
/-! ### the errors -/
def spBE (K : PySem.W.Frag) : Sp := fun vs H Q _ => ∃ (e C : Addr) (c : Str), vs = [.ref e, .str c] ∧ OexC K C ∧ PySem.W.findIn K (.ref C) "code" = some none ∧ H e = some (exo e C none) ∧
  ∀ dx, H dx = none → dx ≠ e → Q .non (upd (upd H dx (exd dx [("code", .str c)])) e (exo e C (some dx)))
structure IniB (P : Program) (w : World) (K : PySem.W.Frag) (mg : Str → Option Value) (base : Heap) (C : Addr) (sp : Sp) : Prop where
  ex : ∃ (f : Addr) (fd : FuncData) (ps : List Str), FnOk P w K mg base L2.CX0 1 f fd ps sp ∧ PySem.W.findCls K (.ref C) (.type "type") "__init__" = some (.val (.ref f)) ∧ PySem.W.keepIn K (.ref f) = true ∧ Binds K fd ps []
namespace D1_0
abbrev ST : Stmt := inCls 1 0
abbrev NS : List Str := ["self", "code"]
theorem S : FnScope NS ["self", "code"] (defScope ST) := ⟨rfl, rfl, rfl, by decide +kernel, rfl, by decide +kernel, by decide +kernel⟩
end D1_0
open D1_0 in
theorem c_bag (T : Txt w K mg a) : IniB P w K mg base a.c1 (spBE K) := by
  obtain ⟨f, fd, F, hf⟩ := T.i1
  refine ⟨f, fd, ["self", "code"], F.ok S (fun vs H Q E h => ?_) (fun cdv A outer s H vs Q E hr h => ?_), hf, F.kp, F.binds (fun _ _ _ _ _ _ us hl => match us, hl with | [_, _], _ => rfl)⟩
  · obtain ⟨e, C, c, rfl, _⟩ := h; rfl
  obtain ⟨e, C, c, rfl, ox, nc, he, k⟩ := h
  refine ⟨_, (pss_cons (ps_expr (pe_veinit rfl T.bVE T.veI (pa_cons (pv 0) (pa_cons (pv 1) pa_nil)))) (pss_one (ps_ost (pv 0) (pv 1)))), ?_⟩
  exact ⟨_, rfl, _, rfl, e, C, _, rfl, by show 1 ≤ 1000; decide, ox, he, _, rfl, _, rfl, e, C, rfl, ox, nc, .inl ⟨he, fun dx h1 h2 => k dx h1 h2⟩⟩
/-- C.__init__(self, v): BagError.__init__(self, code); self.fld = v -/
def spErr (C : Addr) (fld code : Str) : Sp := fun vs H Q _ => ∃ (e : Addr) (v : V), vs = [.ref e, v] ∧ H e = some (exo e C none) ∧
  ∀ dx, H dx = none → dx ≠ e → Q .non (upd (upd (upd H dx (exd dx [("code", .str code)])) e (exo e C (some dx))) dx (exd dx [(fld, v), ("code", .str code)]))
structure IniE (P : Program) (w : World) (K : PySem.W.Frag) (mg : Str → Option Value) (base : Heap) (C : Addr) (sp : Sp) : Prop where
  ex : ∃ (f : Addr) (fd : FuncData) (ps : List Str), FnOk P w K mg base L2.CX0 2 f fd ps sp ∧ PySem.W.findIn K (.ref C) "__init__" = some (some (.ref f)) ∧ PySem.W.typeIn K (.ref f) = some (.type "function") ∧ Binds K fd ps []
namespace D4_0
abbrev ST : Stmt := inCls 4 0
abbrev NS : List Str := ["self", "position"]
theorem S : FnScope NS ["self", "position"] (defScope ST) := ⟨rfl, rfl, rfl, by decide +kernel, rfl, by decide +kernel, by decide +kernel⟩
end D4_0
open D4_0 in
theorem c_err4 (T : Txt w K mg a) : IniE P w K mg base a.c4 (spErr a.c4 "position" "InvalidText") := by
  obtain ⟨f1, fd1, ps1, F1, hc1, hk1, hb1⟩ := (c_bag (P := P) (base := base) T).ex
  obtain ⟨f, fd, F, hf, ht⟩ := T.e4.ini
  refine ⟨f, fd, ["self", "position"], F.ok S (fun vs H Q E h => ?_) (fun cdv A outer s H vs Q E hr h => ?_), hf, ht, F.binds (fun _ _ _ _ _ _ us hl => match us, hl with | [_, _], _ => rfl)⟩
  · obtain ⟨e, v, rfl, _⟩ := h; rfl
  obtain ⟨e, v, rfl, he, k⟩ := h
  refine ⟨_, (pss_cons (ps_expr (pe_cfn (C8.pe_gc rfl T.g1) T.e1 hc1 F1 hr hk1 hb1 L2.pass0 (pa_cons (pv 0) (pa_cons pe_str pa_nil)))) (pss_one (ps_ost (pv 0) (pv 1)))), ?_⟩
  refine ⟨rfl, _, rfl, e, a.c4, _, rfl, T.e4.ox, T.e4.nC, he, fun dx h1 h2 => ⟨_, rfl, _, rfl, e, a.c4, rfl, T.e4.ox, T.e4.nF, .inr ⟨dx, _, upd_same, ?_, by show 1 ≤ 900; decide, k dx h1 h2⟩⟩⟩
  rw [upd_ne h2]
  exact upd_same
namespace D5_0
abbrev ST : Stmt := inCls 5 0
abbrev NS : List Str := ["self", "limit"]
theorem S : FnScope NS ["self", "limit"] (defScope ST) := ⟨rfl, rfl, rfl, by decide +kernel, rfl, by decide +kernel, by decide +kernel⟩
end D5_0
open D5_0 in
theorem c_err5 (T : Txt w K mg a) : IniE P w K mg base a.c5 (spErr a.c5 "limit" "NestingTooDeep") := by
  obtain ⟨f1, fd1, ps1, F1, hc1, hk1, hb1⟩ := (c_bag (P := P) (base := base) T).ex
  obtain ⟨f, fd, F, hf, ht⟩ := T.e5.ini
  refine ⟨f, fd, ["self", "limit"], F.ok S (fun vs H Q E h => ?_) (fun cdv A outer s H vs Q E hr h => ?_), hf, ht, F.binds (fun _ _ _ _ _ _ us hl => match us, hl with | [_, _], _ => rfl)⟩
  · obtain ⟨e, v, rfl, _⟩ := h; rfl
  obtain ⟨e, v, rfl, he, k⟩ := h
  refine ⟨_, (pss_cons (ps_expr (pe_cfn (C8.pe_gc rfl T.g1) T.e1 hc1 F1 hr hk1 hb1 L2.pass0 (pa_cons (pv 0) (pa_cons pe_str pa_nil)))) (pss_one (ps_ost (pv 0) (pv 1)))), ?_⟩
  refine ⟨rfl, _, rfl, e, a.c5, _, rfl, T.e5.ox, T.e5.nC, he, fun dx h1 h2 => ⟨_, rfl, _, rfl, e, a.c5, rfl, T.e5.ox, T.e5.nF, .inr ⟨dx, _, upd_same, ?_, by show 1 ≤ 900; decide, k dx h1 h2⟩⟩⟩
  rw [upd_ne h2]
  exact upd_same
namespace D6_0
abbrev ST : Stmt := inCls 6 0
abbrev NS : List Str := ["self", "limit"]
theorem S : FnScope NS ["self", "limit"] (defScope ST) := ⟨rfl, rfl, rfl, by decide +kernel, rfl, by decide +kernel, by decide +kernel⟩
end D6_0
open D6_0 in
theorem c_err6 (T : Txt w K mg a) : IniE P w K mg base a.c6 (spErr a.c6 "limit" "TermTooLarge") := by
  obtain ⟨f1, fd1, ps1, F1, hc1, hk1, hb1⟩ := (c_bag (P := P) (base := base) T).ex
  obtain ⟨f, fd, F, hf, ht⟩ := T.e6.ini
  refine ⟨f, fd, ["self", "limit"], F.ok S (fun vs H Q E h => ?_) (fun cdv A outer s H vs Q E hr h => ?_), hf, ht, F.binds (fun _ _ _ _ _ _ us hl => match us, hl with | [_, _], _ => rfl)⟩
  · obtain ⟨e, v, rfl, _⟩ := h; rfl
  obtain ⟨e, v, rfl, he, k⟩ := h
  refine ⟨_, (pss_cons (ps_expr (pe_cfn (C8.pe_gc rfl T.g1) T.e1 hc1 F1 hr hk1 hb1 L2.pass0 (pa_cons (pv 0) (pa_cons pe_str pa_nil)))) (pss_one (ps_ost (pv 0) (pv 1)))), ?_⟩
  refine ⟨rfl, _, rfl, e, a.c6, _, rfl, T.e6.ox, T.e6.nC, he, fun dx h1 h2 => ⟨_, rfl, _, rfl, e, a.c6, rfl, T.e6.ox, T.e6.nF, .inr ⟨dx, _, upd_same, ?_, by show 1 ≤ 900; decide, k dx h1 h2⟩⟩⟩
  rw [upd_ne h2]
  exact upd_same
end Rb
set_option maxRecDepth 100000
set_option maxHeartbeats 4000000
namespace Rb
open PySem PySem.Spec PyProof.Rows L2 SX RbR
open TL (numL)
variable {P : Program} {w : World} {K : PySem.W.Frag} {mg : Str → Option Value} {base : Heap} {a : Ads}
/-- what a raised error looks like -/
def ErrAt (a : Ads) (H : Hp) (cls : Value) (d : Option Addr) : Prop := ∃ dd, d = some dd ∧
  ((cls = .ref a.c4 ∧ ∃ v, H dd = some (.xd [("position", v), ("code", .str "InvalidText")])) ∨ (cls = .ref a.c5 ∧ ∃ v, H dd = some (.xd [("limit", v), ("code", .str "NestingTooDeep")])) ∨ (cls = .ref a.c6 ∧ ∃ v, H dd = some (.xd [("limit", v), ("code", .str "TermTooLarge")])))
theorem err_go {C : Addr} {fld code : Str} {v : V} {H1 : Hp} {W : Value → Option Addr → Hp → Prop} (h : ∀ dd H', Same H1 H' → H' dd = some (.xd [(fld, v), ("code", .str code)]) → W (.ref C) (some dd) H') :
    ([v] : List V).length ≤ 1000 ∧ ∀ e, H1 e = none → spErr C fld code (.ref e :: ([v] ++ [])) (upd H1 e (exo e C none))
      (fun u H2 => u = .non ∧ ∃ (d : Addr) (fs : List (Str × V)), H2 e = some (exo e C (some d)) ∧ H2 d = some (exd d fs) ∧ H1 d = none ∧ W (.ref C) (some d) (upd (del H2 e) d (.xd fs))) (fun _ _ _ => False) := by
  refine ⟨by show 1 ≤ 1000; decide, fun e he => ⟨e, v, rfl, upd_same, fun dx h1 h2 => ⟨rfl, dx, _, ?_, upd_same, ?_, h _ _ ?_ upd_same⟩⟩⟩
  · rw [upd_ne (Ne.symm h2)]; exact upd_same
  · rw [upd_ne h2] at h1; exact h1
  · intro b o q
    have hbe : b ≠ e := ne_of_none q he
    have hbd : b ≠ dx := ne_of_none q (by rw [upd_ne h2] at h1; exact h1)
    rw [upd_ne hbd, del_ne hbe, upd_ne hbd, upd_ne hbe, upd_ne hbd, upd_ne hbe]
    exact q
/-! ### the reader -/
def rfs (l : Addr) (n m : Nat) : List (Str × V) := [("tokens", .ref l), ("at", .int (n : Nat)), ("opened", .int (m : Nat))]
theorem rfs_tok (l : Addr) (n m : Nat) : (rfs l n m).lookup ("tokens" : Str) = some (.ref l) := rfl
theorem rfs_at (l : Addr) (n m : Nat) : (rfs l n m).lookup ("at" : Str) = some (.int (n : Nat)) := rfl
theorem rfs_opn (l : Addr) (n m : Nat) : (rfs l n m).lookup ("opened" : Str) = some (.int (m : Nat)) := rfl
theorem ta_ : ¬ ("tokens" : Str) = "at" := by decide +kernel
theorem to_ : ¬ ("tokens" : Str) = "opened" := by decide +kernel
theorem ao_ : ¬ ("at" : Str) = "opened" := by decide +kernel
theorem put_at (l : Addr) (n m : Nat) (v : V) (k : Nat) (h : v = .int (k : Nat)) : putF "at" v (rfs l n m) = rfs l k m := by
  subst h
  show (if ("tokens" : Str) = "at" then _ else (("tokens" : Str), V.ref l) :: (if ("at" : Str) = "at" then (("at" : Str), V.int (k : Nat)) :: [(("opened" : Str), V.int (m : Nat))] else _)) = _
  rw [if_neg ta_, if_pos rfl]
  rfl
theorem put_opn (l : Addr) (n m : Nat) (v : V) (k : Nat) (h : v = .int (k : Nat)) : putF "opened" v (rfs l n m) = rfs l n k := by
  subst h
  show (if ("tokens" : Str) = "opened" then _ else (("tokens" : Str), V.ref l) :: (if ("at" : Str) = "opened" then _ else (("at" : Str), V.int (n : Nat)) :: (if ("opened" : Str) = "opened" then (("opened" : Str), V.int (k : Nat)) :: [] else _))) = _
  rw [if_neg to_, if_neg ao_, if_pos rfl]
  rfl
/-- x is a reader of the tokens toks.2, in the list at toks.1; before it the tokens ts, d more may be opened -/
def TL2 (H : Hp) (l : Addr) (toks : Addr × List Tx) : Prop := l = toks.1 ∧ TAt H l toks.2
def RS (C : Addr) (H : Hp) (x : Addr) (toks : Addr × List Tx) (ts : List Tx) (d : Nat) : Prop :=
  (∃ pre, toks.2 = pre ++ ts) ∧ (∃ u, ts = u ++ [[]]) ∧ (toks.2.length ≤ 1000 ∧ Wfs toks.2 ∧ ∀ t ∈ toks.2, t.length ≤ 900) ∧ ∃ (l dx : Addr) (n m : Nat), n + ts.length = toks.2.length ∧ m + d = 20 ∧ H x = some (.ins C dx (rfs l n m)) ∧ TL2 H l toks
theorem TL2.but {H H' : Hp} {x l C dx : Addr} {fs : List (Str × V)} {toks : Addr × List Tx} (h : TL2 H l toks) (b : But x H H') (hx : H x = some (.ins C dx fs)) : TL2 H' l toks := by
  obtain ⟨e, vs, hl, hv⟩ := h
  exact ⟨e, vs, b l _ (fun q => by rw [q, hx] at hl; cases hl) hl, ToksV.kt (b.kt fun xs q => by rw [hx] at q; cases q) hv⟩
theorem RS.keep {C : Addr} {H H' : Hp} {x : Addr} {toks : Addr × List Tx} {ts : List Tx} {d : Nat} (h : RS C H x toks ts d) (s : Same H H') : RS C H' x toks ts d := by
  obtain ⟨h1, h2, h3, l, dx, n, m, h4, h5, h6, h7⟩ := h
  exact ⟨h1, h2, h3, l, dx, n, m, h4, h5, s _ _ h6, h7.but (s.but x) h6⟩
theorem RS.fresh {C : Addr} {H : Hp} {x p : Addr} {toks : Addr × List Tx} {ts : List Tx} {d : Nat} (h : RS C H x toks ts d) (hp : H p = none) : p ≠ toks.1 := by
  obtain ⟨_, _, _, l, _, _, _, _, _, _, rfl, vs, hl, _⟩ := h
  exact Ne.symm (ne_of_none hl hp)
/-- another list changes -/
theorem RS.other {C : Addr} {H : Hp} {x p : Addr} {toks : Addr × List Tx} {ts : List Tx} {d : Nat} {xs ys : List V} (h : RS C H x toks ts d) (hp : H p = some (.lst xs)) (hne : p ≠ toks.1) : RS C (upd H p (.lst ys)) x toks ts d := by
  obtain ⟨h1, h2, h3, l, dx, n, m, h4, h5, h6, rfl, vs, hl, hv⟩ := h
  have hxp : x ≠ p := fun q => by rw [q, hp] at h6; cases h6
  refine ⟨h1, h2, h3, _, dx, n, m, h4, h5, by rw [upd_ne hxp]; exact h6, rfl, vs, by rw [upd_ne (Ne.symm hne)]; exact hl, ToksV.kt (fun b zs q => ?_) hv⟩
  rw [upd_ne (fun z => by rw [z, hp] at q; cases q)]
  exact q
/-- the token at hand -/
theorem RS.cur {C : Addr} {H : Hp} {x : Addr} {toks : Addr × List Tx} {ts : List Tx} {d : Nat} (h : RS C H x toks ts d) : ∃ (t : Tx) (r : List Tx), ts = t :: r ∧ (t ≠ [] → ∃ u, r = u ++ [[]]) := by
  obtain ⟨_, ⟨u, e⟩, _⟩ := h
  cases u with
  | nil => exact ⟨[], [], e, fun q => (q rfl).elim⟩
  | cons t u => exact ⟨t, u ++ [[]], by rw [e]; rfl, fun _ => ⟨u, rfl⟩⟩
theorem toks_at {H : Hp} {l : Addr} {toks pre ts : List Tx} {t : Tx} {n : Nat} (h : TAt H l toks) (e : toks = pre ++ t :: ts) (hn : n = pre.length) : ∃ vs b p, H l = some (.lst vs) ∧ vs[n]? = some (.ref b) ∧ H b = some (.tup [.int p, .str (S t)]) := by
  obtain ⟨vs, hl, hv⟩ := h
  have e1 : toks[n]? = some t := by rw [e, hn]; simp
  have hlen := Paired.length hv
  have hlt : n < vs.length := by
    obtain ⟨h, _⟩ := List.getElem?_eq_some_iff.mp e1
    omega
  obtain ⟨v, hv1⟩ : ∃ v, vs[n]? = some v := ⟨vs[n], List.getElem?_eq_getElem hlt⟩
  obtain ⟨t', ht', b, p, rfl, hb⟩ := paired_get hv hv1
  rw [e1] at ht'
  cases ht'
  exact ⟨vs, b, p, hl, hv1, hb⟩
/-- one token read -/
theorem RS.step {C : Addr} {H : Hp} {x : Addr} {toks : Addr × List Tx} {r : List Tx} {t : Tx} {d : Nat} (h : RS C H x toks (t :: r) d) :
    ∃ (l dx : Addr) (n m : Nat), H x = some (.ins C dx (rfs l n m)) ∧ m + d = 20 ∧ ∀ v, v = .int ((n : Int) + 1) → t ≠ [] → RS C (upd H x (.ins C dx (putF "at" v (rfs l n m)))) x toks r d := by
  obtain ⟨⟨pre, e1⟩, ⟨u, e2⟩, h3, l, dx, n, m, h4, h5, h6, h7⟩ := h
  refine ⟨l, dx, n, m, h6, h5, fun v hv ht => ⟨⟨pre ++ [t], by rw [e1]; simp⟩, ?_, h3, l, dx, n + 1, m, ?_, h5, ?_, h7.but ((But.refl x H).put) h6⟩⟩
  · cases u with
    | nil => cases e2; exact (ht rfl).elim
    | cons c u => cases e2; exact ⟨u, rfl⟩
  · rw [List.length_cons] at h4
    omega
  · rw [upd_same, put_at l n m v (n + 1) (by rw [hv]; rfl)]
/-! token -/
def spTok (C : Addr) : Sp := fun vs H Q _ => ∃ (x : Addr) (toks : Addr × List Tx) (ts : List Tx) (t : Tx) (d : Nat), vs = [.ref x] ∧ RS C H x toks (t :: ts) d ∧ Q (.str (S t)) H
namespace D26_1
abbrev ST : Stmt := inCls 26 1
abbrev NS : List Str := ["self"]
theorem S : FnScope NS ["self"] (defScope ST) := ⟨rfl, rfl, rfl, by decide +kernel, rfl, by decide +kernel, by decide +kernel⟩
end D26_1
open D26_1 in
theorem m_token (T : Txt w K mg a) : Met P w K mg base L2.CX0 1 a.cr "token" (spTok a.cr) := by
  refine met0 T.r1 T.cl S (fun vs H Q E h => ?_) (fun _ _ _ _ _ _ us hl => match us, hl with | [_], _ => rfl) (fun f cdv A outer s H vs Q E hr h => ?_)
  · obtain ⟨x, _, _, _, _, rfl, _⟩ := h; rfl
  obtain ⟨x, toks, ts, t, d, rfl, ⟨⟨pre, e1⟩, _, h3, l, dx, n, m, h4, h5, h6, h7⟩, k⟩ := h
  refine ⟨_, (pss_one (ps_ret (pe_ix ix_tup (pe_ix ix_list (pe_fld (pv 0) rfl) (pe_fld (pv 0) rfl) (fun _ _ => rfl)) pe_int (fun _ _ => rfl)))), ?_⟩
  have hn : n = pre.length := by
    rw [e1, List.length_append] at h4
    omega
  obtain ⟨vs, b, p, hl, hv, hb⟩ := toks_at h7.2 e1 hn
  exact ⟨_, rfl, x, a.cr, dx, _, _, rfl, h6, T.cl, T.nTok, rfs_tok l n m, _, rfl, x, a.cr, dx, _, _, rfl, h6, T.cl, T.nAt, rfs_at l n m, l, _, _, _, rfl, rfl, SqL.of hl, atI_nat hv, b, _, _, _, rfl, rfl, SqT.of hb, atI_nat (j := 1) rfl, k⟩
/-! fail -/
def Fails (a : Ads) (x : Addr) (H : Hp) (E : XK) : Prop := ∀ cls d H', But x H H' → ErrAt a H' cls d → E cls d H'
theorem Fails.mono {a : Ads} {x : Addr} {H H1 : Hp} {E : XK} (b : But x H H1) (f : Fails a x H E) : Fails a x H1 E := fun cls d H' b' e => f cls d H' (b.trans b') e
def spFail (a : Ads) : Sp := fun vs H _ E => ∃ (x : Addr) (toks : Addr × List Tx) (ts : List Tx) (d : Nat), vs = [.ref x] ∧ RS a.cr H x toks ts d ∧ Fails a x H E
namespace D26_2
abbrev ST : Stmt := inCls 26 2
abbrev NS : List Str := ["self"]
theorem S : FnScope NS ["self"] (defScope ST) := ⟨rfl, rfl, rfl, by decide +kernel, rfl, by decide +kernel, by decide +kernel⟩
end D26_2
open D26_2 in
theorem m_fail (T : Txt w K mg a) : Met P w K mg base (L2.CX P w) 4 a.cr "fail" (spFail a) := by
  obtain ⟨f1, fd1, ps1, F1, hc1, ht1, hb1⟩ := (c_err4 (P := P) (base := base) T).ex
  refine metX T.r2 T.cl S (fun vs H Q E h => ?_) (fun _ _ _ _ _ _ us hl => match us, hl with | [_], _ => rfl) (fun f cdv A outer s H vs Q E hr h => ?_)
  · obtain ⟨x, _, _, _, rfl, _⟩ := h; rfl
  obtain ⟨x, toks, ts, d, rfl, ⟨⟨pre, e1⟩, ⟨u, e2⟩, h3, l, dx, n, m, h4, h5, h6, h7⟩, k⟩ := h
  refine ⟨_, (pss_one (ps_raise rfl (takes_of rfl rfl rfl rfl) (pmk_oex T.e4.ox hc1 ht1 F1 (hr.mono (by decide)) hb1 .nil L2.pass0 rfl T.e4.gC (pa_cons (pe_ix ix_tup (pe_ix ix_list (pe_fld (pv 0) rfl) (pe_fld (pv 0) rfl) (fun _ _ => rfl)) pe_int (fun _ _ => rfl)) pa_nil)))), ?_⟩
  have hn : n = pre.length := by
    rw [e1, List.length_append] at h4
    omega
  obtain ⟨t, r, et, _⟩ : ∃ (t : Tx) (r : List Tx), ts = t :: r ∧ True := by
    cases u with
    | nil => exact ⟨_, _, e2, trivial⟩
    | cons c u => exact ⟨_, _, e2, trivial⟩
  subst et
  obtain ⟨vs, b, p, hl, hv, hb⟩ := toks_at h7.2 e1 hn
  exact ⟨_, rfl, x, a.cr, dx, _, _, rfl, h6, T.cl, T.nTok, rfs_tok l n m, _, rfl, x, a.cr, dx, _, _, rfl, h6, T.cl, T.nAt, rfs_at l n m, l, _, _, _, rfl, rfl, SqL.of hl, atI_nat hv, b, _, _, _, rfl, rfl, SqT.of hb, atI_nat (j := 0) rfl,
    err_go fun dd H' sm hd => k _ _ _ (sm.but x) ⟨dd, rfl, .inl ⟨rfl, _, hd⟩⟩⟩
end Rb
set_option maxRecDepth 100000
set_option maxHeartbeats 4000000
namespace Rb
open PySem PySem.Spec PyProof.Rows L2 SX RbR
open TL (numL)
variable {P : Program} {w : World} {K : PySem.W.Frag} {mg : Str → Option Value} {base : Heap} {a : Ads}
theorem neS {x y : Tx} : decide (V.str (S x) = V.str (S y)) = decide (x = y) := by
  by_cases h : x = y
  · rw [h]; simp
  · rw [dnS (fun q => h (S_inj q)), decide_eq_false h]
def spTake (a : Ads) : Sp := fun vs H Q E => ∃ (x : Addr) (toks : Addr × List Tx) (r : List Tx) (t mk : Tx) (d : Nat), vs = [.ref x, .str (S mk)] ∧ RS a.cr H x toks (t :: r) d ∧
  (t = mk → ∀ H', But x H H' → (mk ≠ [] → RS a.cr H' x toks r d) → Q .non H') ∧ (t ≠ mk → Fails a x H E)
namespace D26_3
abbrev ST : Stmt := inCls 26 3
abbrev NS : List Str := ["self", "mark"]
theorem S : FnScope NS ["self", "mark"] (defScope ST) := ⟨rfl, rfl, rfl, by decide +kernel, rfl, by decide +kernel, by decide +kernel⟩
end D26_3
open D26_3 in
theorem m_take (T : Txt w K mg a) : Met P w K mg base (L2.CX P w) 5 a.cr "take" (spTake a) := by
  have m_token := m_token (P := P) (base := base) T
  have m_fail := m_fail (P := P) (base := base) T
  refine metX T.r3 T.cl S (fun vs H Q E h => ?_) (fun _ _ _ _ _ _ us hl => match us, hl with | [_, _], _ => rfl) (fun f cdv A outer s H vs Q E hr h => ?_)
  · obtain ⟨x, _, _, _, _, _, rfl, _⟩ := h; rfl
  obtain ⟨x, toks, r, t, mk, d, rfl, rs, k1, k2⟩ := h
  refine ⟨_, (pss_cons (ps_if (pt_cmpR op_ne (pe_m0 m_token hr (by decide) L2.pass0 (pv 0)) (pv 1) (nomark _))
    (pss_one (ps_expr (pe_m0 m_fail hr (by decide) (passes_call (takes_of rfl rfl rfl rfl) (fun _ _ _ _ h => h)) (pv 0))))
    pss_nil)
  (pss_one (ps_fldaug (pv 0) pe_int in_add))), ?_⟩
  obtain ⟨l, dx, n, m, hx, hm, st⟩ := rs.step
  refine ⟨_, rfl, x, dx, _, rfl, hx, rfl, ⟨x, toks, r, t, d, rfl, rs, _, rfl, rfl, _, rfl, ?_⟩⟩
  rw [neS]
  by_cases h : t = mk
  · refine ifF (nF (decide_eq_true h)) ⟨_, rfl, x, a.cr, dx, _, _, rfl, hx, T.cl, T.nAt, rfs_at l n m, _, _, rfl, rfl, dx, _, hx, by show 3 < 1000; decide, ?_⟩
    exact k1 h _ ((But.refl x H).put) fun hk => st _ rfl (by rw [h]; exact hk)
  · refine ifT (nT (decide_eq_false h)) ⟨_, rfl, x, dx, _, rfl, hx, rfl, ⟨x, toks, t :: r, d, rfl, rs, k2 h⟩⟩
/-! enter, leave -/
def spEnter (a : Ads) : Sp := fun vs H Q E => ∃ (x : Addr) (toks : Addr × List Tx) (r : List Tx) (t : Tx) (d : Nat), vs = [.ref x] ∧ RS a.cr H x toks (t :: r) d ∧
  (t = [40] → ∀ d', d = d' + 1 → ∀ H', But x H H' → RS a.cr H' x toks r d' → Q .non H') ∧ ((t ≠ [40] ∨ d = 0) → Fails a x H E)
namespace D26_4
abbrev ST : Stmt := inCls 26 4
abbrev NS : List Str := ["self"]
theorem S : FnScope NS ["self"] (defScope ST) := ⟨rfl, rfl, rfl, by decide +kernel, rfl, by decide +kernel, by decide +kernel⟩
end D26_4
open D26_4 in
theorem m_enter (T : Txt w K mg a) : Met P w K mg base (L2.CX P w) 5 a.cr "enter" (spEnter a) := by
  have m_token := m_token (P := P) (base := base) T
  have m_fail := m_fail (P := P) (base := base) T
  obtain ⟨f1, fd1, ps1, F1, hc1, ht1, hb1⟩ := (c_err5 (P := P) (base := base) T).ex
  refine metX T.r4 T.cl S (fun vs H Q E h => ?_) (fun _ _ _ _ _ _ us hl => match us, hl with | [_], _ => rfl) (fun f cdv A outer s H vs Q E hr h => ?_)
  · obtain ⟨x, _, _, _, _, rfl, _⟩ := h; rfl
  obtain ⟨x, toks, r, t, d, rfl, rs, k1, k2⟩ := h
  refine ⟨_, (pss_cons (ps_if (pt_cmpR op_ne (pe_m0 m_token hr (by decide) L2.pass0 (pv 0)) pe_str (nomark _))
      (pss_one (ps_expr (pe_m0 m_fail hr (by decide) (passes_call (takes_of rfl rfl rfl rfl) (fun _ _ _ _ h => h)) (pv 0)))) pss_nil)
    (pss_cons (ps_if (pt_cmpR op_ge (pe_fld (pv 0) rfl) (C8.pe_gc rfl T.cOpn) (nomark _))
      (pss_one (ps_raise rfl (takes_of rfl rfl rfl rfl) (pmk_oex T.e5.ox hc1 ht1 F1 (hr.mono (by decide)) hb1 .nil L2.pass0 rfl T.e5.gC (pa_cons (C8.pe_gc rfl T.cOpn) pa_nil)))) pss_nil)
    (pss_cons (ps_fldaug (pv 0) pe_int in_add) (pss_one (ps_fldaug (pv 0) pe_int in_add))))), ?_⟩
  obtain ⟨⟨pre, e1⟩, ⟨u, e2⟩, h3, l, dx, n, m, h4, h5, hx, h7⟩ := id rs
  refine ⟨_, rfl, x, dx, _, rfl, hx, rfl, ⟨x, toks, r, t, d, rfl, rs, rfl, _, rfl, ?_⟩⟩
  rw [show (V.str "(") = V.str (S [40]) from rfl, neS]
  by_cases h : t = [40]
  · refine ifF (nF (decide_eq_true h)) ⟨_, rfl, x, a.cr, dx, _, _, rfl, hx, T.cl, T.nOpn, rfs_opn l n m, _, _, rfl, rfl, _, rfl, ?_⟩
    by_cases hd : d = 0
    · refine ifT (decide_eq_true (by omega)) (err_go fun dd H' sm hd' => k2 (.inr hd) _ _ _ (sm.but x) ⟨dd, rfl, .inr (.inl ⟨rfl, _, hd'⟩)⟩)
    · refine ifF (decide_eq_false (by omega)) ⟨_, rfl, x, a.cr, dx, _, _, rfl, hx, T.cl, T.nOpn, rfs_opn l n m, _, _, rfl, rfl, dx, _, hx, by show 3 < 1000; decide, ?_⟩
      rw [put_opn l n m (.int ((m : Int) + 1)) (m + 1) rfl]
      refine ⟨_, rfl, x, a.cr, dx, _, _, rfl, upd_same, T.cl, T.nAt, rfs_at l n (m + 1), _, _, rfl, rfl, dx, _, upd_same, by show 3 < 1000; decide, ?_⟩
      rw [put_at l n (m + 1) (.int ((n : Int) + 1)) (n + 1) rfl, upd_upd]
      have hb : But x H (upd H x (.ins a.cr dx (rfs l (n + 1) (m + 1)))) := (But.refl x H).put
      refine k1 h (d - 1) (by omega) _ hb ⟨⟨pre ++ [t], by rw [e1]; simp⟩, ?_, h3, l, dx, n + 1, m + 1, ?_, by omega, upd_same, h7.but hb hx⟩
      · cases u with
        | nil => cases e2; cases h
        | cons c u => cases e2; exact ⟨u, rfl⟩
      · rw [List.length_cons] at h4
        omega
  · refine ifT (nT (decide_eq_false h)) ⟨_, rfl, x, dx, _, rfl, hx, rfl, ⟨x, toks, t :: r, d, rfl, rs, k2 (.inl h)⟩⟩
def spLeave (a : Ads) : Sp := fun vs H Q E => ∃ (x : Addr) (toks : Addr × List Tx) (r : List Tx) (t : Tx) (d : Nat), vs = [.ref x] ∧ d + 1 ≤ 20 ∧ RS a.cr H x toks (t :: r) d ∧
  (t = [41] → ∀ H', But x H H' → RS a.cr H' x toks r (d + 1) → Q .non H') ∧ (t ≠ [41] → Fails a x H E)
namespace D26_5
abbrev ST : Stmt := inCls 26 5
abbrev NS : List Str := ["self"]
theorem S : FnScope NS ["self"] (defScope ST) := ⟨rfl, rfl, rfl, by decide +kernel, rfl, by decide +kernel, by decide +kernel⟩
end D26_5
open D26_5 in
theorem m_leave (T : Txt w K mg a) : Met P w K mg base (L2.CX P w) 6 a.cr "leave" (spLeave a) := by
  have m_take := m_take (P := P) (base := base) T
  refine metX T.r5 T.cl S (fun vs H Q E h => ?_) (fun _ _ _ _ _ _ us hl => match us, hl with | [_], _ => rfl) (fun f cdv A outer s H vs Q E hr h => ?_)
  · obtain ⟨x, _, _, _, _, rfl, _⟩ := h; rfl
  obtain ⟨x, toks, r, t, d, rfl, hd, rs, k1, k2⟩ := h
  refine ⟨_, (pss_cons (ps_expr (pe_m m_take hr (by decide) (passes_call (takes_of rfl rfl rfl rfl) (fun _ _ _ _ h => h)) (pv 0) (pa_cons pe_str pa_nil)))
  (pss_one (ps_fldaug (pv 0) pe_int in_sub))), ?_⟩
  obtain ⟨l, dx, n, m, hx, hm, st⟩ := rs.step
  refine ⟨_, rfl, x, dx, _, rfl, hx, rfl, x, toks, r, t, [41], d, rfl, rs, fun h H' hb rs' => ?_, k2⟩
  obtain ⟨h1, h2, h3, l', dx', n', m', h4, h5, hx', h7⟩ := rs' (by decide)
  refine ⟨_, rfl, x, a.cr, dx', _, _, rfl, hx', T.cl, T.nOpn, rfs_opn l' n' m', _, _, rfl, rfl, dx', _, hx', by show 3 < 1000; decide, ?_⟩
  rw [put_opn l' n' m' (.int ((m' : Int) - 1)) (m' - 1) (by congr 1; omega)]
  exact k1 h _ hb.put ⟨h1, h2, h3, l', dx', n', m' - 1, h4, by omega, upd_same, h7.but ((But.refl x H').put) hx'⟩
end Rb
set_option maxRecDepth 100000
set_option maxHeartbeats 4000000
namespace Rb
open PySem PySem.Spec PyProof.Rows L2 SX RbR
open TL (numL)
variable {P : Program} {w : World} {K : PySem.W.Frag} {mg : Str → Option Value} {base : Heap} {a : Ads}
theorem in_first (t l : Tx) : inV (.str (S (t.take 1))) (RbR.signs (S l)) = (match t with | [] => false | c :: _ => decide (c ∈ l)) := by
  have key : ∀ u : Tx, inV (.str (S u)) (RbR.signs (S l)) = l.any fun c => decide ([c] = u) := fun u => by
    show ((S l).cps.toList.map fun c => V.str ⟨#[c]⟩).any (fun y => eqV y (.str (S u))) = _
    rw [tlS, List.any_map]
    congr 1
    funext c
    show (S [c] == S u) = _
    rw [S_beq_eq]
  rw [key]
  cases t with
  | nil => simp
  | cons c r =>
    show l.any (fun d => decide ([d] = [c])) = decide (c ∈ l)
    rw [Bool.eq_iff_iff]
    simp
theorem flat_signs (z : Str) : (RbR.signs z).all flatV = true := by
  unfold RbR.signs
  rw [List.all_map]
  exact List.all_eq_true.mpr fun _ _ => rfl
/-- what a part of the parser promises -/
def Parses (a : Ads) (x : Addr) (toks : Addr × List Tx) (d : Nat) {α : Type} (m : Option (α × List Tx)) (rep : Hp → V → α → Prop) (H : Hp) (Q : VK) (E : XK) : Prop :=
  (∀ v r, m = some (v, r) → ∀ u H', But x H H' → RS a.cr H' x toks r d → rep H' u v → Q u H') ∧ (m = none → Fails a x H E)
def repN : Hp → V → Nat → Prop := fun _ u n => u = .int (n : Nat)
def spNat (a : Ads) : Sp := fun vs H Q E => ∃ (x : Addr) (toks : Addr × List Tx) (ts : List Tx) (d : Nat), vs = [.ref x] ∧ RS a.cr H x toks ts d ∧ Parses a x toks d (natural ts) repN H Q E
namespace D26_6
abbrev ST : Stmt := inCls 26 6
abbrev NS : List Str := ["self", "token"]
theorem S : FnScope NS ["self"] (defScope ST) := ⟨rfl, rfl, rfl, by decide +kernel, rfl, by decide +kernel, by decide +kernel⟩
end D26_6
theorem tokNat_all {t : Tx} {n : Nat} (h : tokNat t = some n) (w : Wf t) : t ≠ [] ∧ t.all (fun c => decide (48 ≤ c) && decide (c ≤ 57)) = true ∧ n = NumText.digitsVal t := by
  obtain ⟨_, h2, h3, h4, h5⟩ := tokNat_inv h w
  refine ⟨fun e => (by rw [e] at h3; cases h3), List.all_eq_true.mpr fun c hc => ?_, h4⟩
  exact h5 c hc
open D26_6 in
theorem m_natural (T : Txt w K mg a) : Met P w K mg base (L2.CX P w) 5 a.cr "natural" (spNat a) := by
  have m_token := m_token (P := P) (base := base) T
  have m_fail := m_fail (P := P) (base := base) T
  refine metX T.r6 T.cl S (fun vs H Q E h => ?_) (fun _ _ _ _ _ _ us hl => match us, hl with | [_], _ => rfl) (fun f cdv A outer s H vs Q E hr h => ?_)
  · obtain ⟨x, _, _, _, rfl, _⟩ := h; rfl
  obtain ⟨x, toks, ts, d, rfl, rs, k1, k2⟩ := h
  refine ⟨_, (pss_cons (ps_set (i := 1) S.nd rfl (Or.inl rfl) (pe_m0 m_token hr (by decide) L2.pass0 (pv 0)))
  (pss_cons (ps_if (PW.pt (pw_or (pt_cmpR op_notIn_seq (pe_slice sl_str (pv 1) po_none (po_some pe_int)) (pe_callTy (call_list_text rfl) rfl T.bLst (by decide +kernel) (pa_cons (C8.pe_gc rfl T.cDig) pa_nil)) rfl) (pw_or (pt_cmpR op_gt (pe_callB call_len_str rfl T.bLen (by decide +kernel) (pa_cons (pv 1) pa_nil)) (C8.pe_gc rfl T.cFig) (nomark _)) (pw_or1 (PW.pt (pw_and (pt_cmpR op_eq (pe_slice sl_str (pv 1) po_none (po_some pe_int)) pe_str (nomark _)) (pw_and1 (pt_cmpR op_ne (pv 1) pe_str (nomark _)))))))))
    (pss_one (ps_expr (pe_m0 m_fail hr (by decide) (passes_call (takes_of rfl rfl rfl rfl) (fun _ _ _ _ h => h)) (pv 0))))
    pss_nil)
  (pss_cons (ps_fldaug (pv 0) pe_int in_add)
  (pss_one (ps_ret (pe_callTy call_int_str rfl T.bInt (by decide +kernel) (pa_cons (pv 1) pa_nil))))))), ?_⟩
  obtain ⟨t, r, rfl, _⟩ := rs.cur
  obtain ⟨⟨pre, e1⟩, _, ⟨_, hw, hlen⟩, _⟩ := id rs
  have hmem : t ∈ toks.2 := by rw [e1]; simp
  have hwf := hw t hmem
  have hl9 := hlen t hmem
  have hz : (S t).length ≤ sizeLine := by rw [S_len]; exact szL (by omega)
  obtain ⟨l, dx, n, m, hx, hm, st⟩ := rs.step
  refine ⟨_, rfl, x, dx, _, rfl, hx, rfl, x, toks, r, t, d, rfl, rs, ?_⟩
  refine ⟨_, rfl, _, rfl, _, rfl, hz, _, rfl, by decide, fun p hp => ⟨p, _, rfl, .inl (SqL.of upd_same), rfl, flat_signs _, _, rfl, ?_⟩⟩
  rw [e_dig, show cutS (S t) none (some 1) = S (t.take 1) from cutS_to t 1, in_first]
  have sm : Same H (upd H p (.lst (RbR.signs (S digs)))) := Same.new hp
  generalize upd H p (.lst (RbR.signs (S digs))) = H1 at sm
  have hx1 := sm _ _ hx
  have rs1 := rs.keep sm
  obtain ⟨l', dx', n', m', hx', hm', st'⟩ := rs1.step
  have ff : natural (t :: r) = none → Fails a x H1 E := fun h => (k2 h).mono (sm.but x)
  have na : ∀ h : tokNat t = none, natural (t :: r) = none := fun h => by
    show (match tokNat t with | none => none | some n => some (n, r)) = none
    rw [h]
  cases t with
  | nil => exact ifT rfl ⟨_, rfl, x, dx, _, rfl, hx1, rfl, x, toks, _, d, rfl, rs1, ff (na rfl)⟩
  | cons c t =>
    show (if (!decide (c ∈ digs)) = true then _ else _)
    rw [mem_dig]
    cases hc : isD c with
    | false => exact ifT rfl ⟨_, rfl, x, dx, _, rfl, hx1, rfl, x, toks, _, d, rfl, rs1, ff (na (if_neg fun q => by rw [hc] at q; cases q.1))⟩
    | true =>
      refine ifF rfl ⟨_, rfl, _, rfl, hz, _, _, rfl, rfl, _, rfl, ?_⟩
      rw [S_len]
      by_cases h100 : (c :: t).length > 100
      · exact ifT (decide_eq_true (by omega)) ⟨_, rfl, x, dx, _, rfl, hx1, rfl, x, toks, _, d, rfl, rs1, ff (na (if_neg fun q => by omega))⟩
      refine ifF (decide_eq_false (by omega)) ⟨_, rfl, _, rfl, _, rfl, hz, rfl, _, rfl, ?_⟩
      rw [show cutS (S (c :: t)) none (some 1) = S [c] from cutS_to (c :: t) 1, show (V.str "0") = V.str (S [48]) from rfl, neS]
      have good : (c ≠ 48 ∨ t = []) → (sFldAug K (tVar 0) (tC (.int 1)) rAdd "at" : TS) { nx := (tRet (tCB (fun xs H Q => ∃ a n, xs = [.str a] ∧ PySem.intText? a = some n ∧ a.length ≤ 640 ∧ Q (.int n) H) (tCons (tVar 1) tNil)) : TS) { nx := fun _ H' => Q .non H', rt := Q }, rt := Q } [some (.ref x), some (.str (S (c :: t)))] H1 := fun h => by
        have ht : tokNat (c :: t) = some (NumText.digitsVal (c :: t)) := if_pos ⟨hc, by omega, h⟩
        have hn : natural ((c :: t) :: r) = some (NumText.digitsVal (c :: t), r) := by
          show (match tokNat (c :: t) with | none => none | some n => some (n, r)) = _
          rw [ht]
        obtain ⟨q1, q2, _⟩ := tokNat_all ht hwf
        refine ⟨_, rfl, x, a.cr, dx', _, _, rfl, hx', T.cl, T.nAt, rfs_at l' n' m', _, _, rfl, rfl, dx', _, hx', by show 3 < 1000; decide, _, rfl, _, _, rfl, int_S q2 q1 (by omega), by rw [S_len]; omega, ?_⟩
        exact k1 _ _ hn _ _ ((sm.but x).put) (st' _ rfl q1) rfl
      by_cases h48 : c = 48
      · subst h48
        refine ifT (decide_eq_true rfl) ⟨_, rfl, rfl, _, rfl, ?_⟩
        rw [neS]
        by_cases ht : t = []
        · subst ht
          exact ifF rfl (good (.inr rfl))
        · refine ifT (nT (decide_eq_false fun q => ht (by simpa using q))) ⟨_, rfl, x, dx, _, rfl, hx1, rfl, x, toks, _, d, rfl, rs1, ff (na (if_neg fun q => ?_))⟩
          rcases q.2.2 with q | q
          · exact q rfl
          · exact ht q
      · exact ifF (decide_eq_false fun q => h48 (by simpa using q)) (ifF rfl (good (.inl h48)))
end Rb
set_option maxRecDepth 100000
set_option maxHeartbeats 4000000
set_option exponentiation.threshold 1000
namespace Rb
open PySem PySem.Spec PyProof.Rows L2 SX RbR
open TL (numL)
variable {P : Program} {w : World} {K : PySem.W.Frag} {mg : Str → Option Value} {base : Heap} {a : Ads}
def spRat (a : Ads) : Sp := fun vs H Q E => ∃ (x : Addr) (toks : Addr × List Tx) (ts : List Tx) (d : Nat), vs = [.ref x] ∧ RS a.cr H x toks ts d ∧ Parses a x toks d (rational ts) RtAt H Q E
namespace D26_7
abbrev ST : Stmt := inCls 26 7
abbrev NS : List Str := ["self", "sign", "top", "bottom"]
theorem S : FnScope NS ["self"] (defScope ST) := ⟨rfl, rfl, rfl, by decide +kernel, rfl, by decide +kernel, by decide +kernel⟩
end D26_7
theorem RS.wfs {C : Addr} {H : Hp} {x : Addr} {toks : Addr × List Tx} {ts : List Tx} {d : Nat} (h : RS C H x toks ts d) : Wfs ts := fun t ht => by
  obtain ⟨⟨pre, e⟩, _, ⟨_, hw, _⟩, _⟩ := h
  exact hw t (by rw [e]; exact List.mem_append_right _ ht)
theorem big100 {n : Nat} (h : n < 10 ^ 100) : (n : Int) < 2 ^ 400 := by
  have : n < 2 ^ 400 := Nat.lt_of_lt_of_le h (by decide +kernel)
  have e : ((2 ^ 400 : Nat) : Int) = (2 : Int) ^ 400 := by rw [Int.natCast_pow]; rfl
  omega
theorem low_pos {s : Int} {n : Nat} (h : 0 < (low s (n : Int)).2) : 0 < n := by
  cases n with
  | zero => simp [low] at h
  | succ n => exact Nat.succ_pos _
abbrev sg1 (b : Bool) : Int := if b = true then -1 else 1
theorem sg1_mul (b : Bool) (n : Nat) : sg1 b * (n : Int) = sgn b n := by
  cases b <;> simp [sg1, sgn]
open D26_7 in
theorem m_rational (T : Txt w K mg a) : Met P w K mg base (L2.CX P w) 6 a.cr "rational" (spRat a) := by
  have m_token := m_token (P := P) (base := base) T
  have m_fail := m_fail (P := P) (base := base) T
  have m_natural := m_natural (P := P) (base := base) T
  have c_lowest := c_lowest (P := P) (base := base) T
  refine metX T.r7 T.cl S (fun vs H Q E h => ?_) (fun _ _ _ _ _ _ us hl => match us, hl with | [_], _ => rfl) (fun f cdv A outer s H vs Q E hr h => ?_)
  · obtain ⟨x, _, _, _, rfl, _⟩ := h; rfl
  obtain ⟨x, toks, ts, d, rfl, rs, k1, k2⟩ := h
  refine ⟨_, (pss_cons (ps_set (i := 1) S.nd rfl (Or.inl rfl) pe_int)
  (C8.pss_cut (ps_if (pt_cmpR op_eq (pe_m0 m_token hr (by decide) L2.pass0 (pv 0)) pe_str (nomark _))
    (pss_cons (ps_set (i := 1) S.nd rfl (Or.inl rfl) (pe_un un_neg pe_int))
    (pss_one (ps_fldaug (pv 0) pe_int in_add)))
    pss_nil)
  (pss_cons (ps_par (i := 2) (j := 3) rfl S.nd rfl rfl (by decide) rfl rfl (pa_cons (pe_m0 m_natural hr (by decide) (passes_call (takes_of rfl rfl rfl rfl) (fun _ _ _ _ h => h)) (pv 0)) (pa_cons pe_int pa_nil)) rfl)
  (C8.pss_cut (ps_if (pt_cmpR op_eq (pe_m0 m_token hr (by decide) L2.pass0 (pv 0)) pe_str (nomark _))
    (pss_cons (ps_fldaug (pv 0) pe_int in_add)
    (pss_cons (ps_if (pt_cmpR op_eq (pe_m0 m_token hr (by decide) L2.pass0 (pv 0)) pe_str (nomark _))
      (pss_one (ps_expr (pe_m0 m_fail hr (by decide) (passes_call (takes_of rfl rfl rfl rfl) (fun _ _ _ _ h => h)) (pv 0))))
      pss_nil)
    (pss_one (ps_set (i := 3) S.nd rfl (Or.inl rfl) (pe_m0 m_natural hr (by decide) (passes_call (takes_of rfl rfl rfl rfl) (fun _ _ _ _ h => h)) (pv 0))))))
    pss_nil)
  (pss_one (ps_ret (pe_k c_lowest hr (by decide) rfl L2.pass0 (pa_cons (pe_op op_mul (pv 1) (pv 2)) (pa_cons (pv 3) pa_nil))))))))), ?_⟩
  obtain ⟨t, r, rfl, _⟩ := rs.cur
  have wfs := rs.wfs
  obtain ⟨l, dx, n, m, hx, hm, st⟩ := rs.step
  refine ⟨fun σ' H' => σ' = [some (.ref x), some (.int (sg1 (minus1 (t :: r)).1)), none, none] ∧ But x H H' ∧ RS a.cr H' x toks (minus1 (t :: r)).2 d, ?_, ?_⟩
  · refine ⟨_, rfl, x, dx, _, rfl, hx, rfl, x, toks, r, t, d, rfl, rs, rfl, _, rfl, ?_⟩
    rw [show (V.str "-") = V.str (S [45]) from rfl, neS]
    have em : minus1 (t :: r) = if t = [45] then (true, r) else (false, t :: r) := rfl
    by_cases h : t = [45]
    · rw [em, if_pos h]
      refine ifT (decide_eq_true h) ⟨_, rfl, _, rfl, x, a.cr, dx, _, _, rfl, hx, T.cl, T.nAt, rfs_at l n m, _, _, rfl, rfl, dx, _, hx, by show 3 < 1000; decide, rfl, (But.refl x H).put, st _ rfl (by rw [h]; decide)⟩
    · rw [em, if_neg h]
      exact ifF (decide_eq_false h) ⟨rfl, But.refl x H, rs⟩
  rintro σ1 H1 ⟨rfl, b1, rs1⟩
  have wf1 := rs1.wfs
  have hrat : rational (t :: r) = match natural (minus1 (t :: r)).2 with | none => none | some (n, ts2) => under (sgn (minus1 (t :: r)).1 n) ts2 := rfl
  generalize (minus1 (t :: r)).2 = ts1 at rs1 wf1 hrat
  generalize (minus1 (t :: r)).1 = bb at hrat
  obtain ⟨_, _, _, l1, dx1, n1, m1, _, _, hx1, _⟩ := id rs1
  refine ⟨_, rfl, x, dx1, _, rfl, hx1, rfl, x, toks, ts1, d, rfl, rs1, fun tp r2 hn u H2 b2 rs2 hu => ?_, fun hn => (k2 (by rw [hrat, hn])).mono b1⟩
  have hu : u = .int (tp : Nat) := hu
  subst hu
  rw [hn] at hrat
  have hrat : rational (t :: r) = under (sgn bb tp) r2 := hrat
  have ntp := (natural_ok hn wf1).1
  obtain ⟨t2, r3, rfl, _⟩ := rs2.cur
  have wf2 := rs2.wfs
  obtain ⟨l2, dx2, n2, m2, hx2, hm2, st2⟩ := rs2.step
  have b12 := b1.trans b2
  refine ⟨_, _, rfl, ?_⟩
  refine ⟨fun σ' H' => ∃ (bo : Nat) (r4 : List Tx), σ' = [some (.ref x), some (.int (sg1 bb)), some (.int (tp : Nat)), some (.int (bo : Nat))] ∧ But x H H' ∧ RS a.cr H' x toks r4 d ∧ rational (t :: r) = some (low (sgn bb tp) (bo : Int), r4) ∧ bo < 10 ^ 100, ?_, ?_⟩
  · refine ⟨_, rfl, x, dx2, _, rfl, hx2, rfl, x, toks, r3, t2, d, rfl, rs2, rfl, _, rfl, ?_⟩
    rw [show (V.str "/") = V.str (S [47]) from rfl, neS]
    by_cases h : t2 = [47]
    · refine ifT (decide_eq_true h) ⟨_, rfl, x, a.cr, dx2, _, _, rfl, hx2, T.cl, T.nAt, rfs_at l2 n2 m2, _, _, rfl, rfl, dx2, _, hx2, by show 3 < 1000; decide, ?_⟩
      have b3 : But x H (upd H2 x (.ins a.cr dx2 (putF "at" (.int ((n2 : Int) + 1)) (rfs l2 n2 m2)))) := b12.put
      have rs3 := st2 _ rfl (by rw [h]; decide)
      generalize upd H2 x (.ins a.cr dx2 (putF "at" (.int ((n2 : Int) + 1)) (rfs l2 n2 m2))) = H3 at b3 rs3
      obtain ⟨t4, r5, rfl, _⟩ := rs3.cur
      obtain ⟨_, _, _, l3, dx3, n3, m3, _, _, hx3, _⟩ := id rs3
      have hun : under (sgn bb tp) (t2 :: t4 :: r5) = if t4 = [48] then none else match natural (t4 :: r5) with | none => none | some (d, ts3) => some (low (sgn bb tp) d, ts3) := if_pos h
      rw [hun] at hrat
      refine ⟨_, rfl, x, dx3, _, rfl, hx3, rfl, x, toks, r5, t4, d, rfl, rs3, rfl, _, rfl, ?_⟩
      rw [show (V.str "0") = V.str (S [48]) from rfl, neS]
      by_cases h0 : t4 = [48]
      · rw [if_pos h0] at hrat
        exact ifT (decide_eq_true h0) ⟨_, rfl, x, dx3, _, rfl, hx3, rfl, x, toks, _, d, rfl, rs3, (k2 hrat).mono b3⟩
      · rw [if_neg h0] at hrat
        refine ifF (decide_eq_false h0) ⟨_, rfl, x, dx3, _, rfl, hx3, rfl, x, toks, t4 :: r5, d, rfl, rs3, fun bo r6 hn4 u H4 b4 rs4 hu => ?_, fun hn => (k2 (by rw [hrat, hn])).mono b3⟩
        have hu : u = .int (bo : Nat) := hu
        subst hu
        exact ⟨bo, r6, rfl, b3.trans b4, rs4, by rw [hrat, hn4], (natural_ok hn4 rs3.wfs).1⟩
    · refine ifF (decide_eq_false h) ⟨1, t2 :: r3, rfl, b12, rs2, ?_, by decide +kernel⟩
      rw [hrat]
      exact if_neg h
  rintro σ5 H5 ⟨bo, r4, rfl, b5, rs5, hq, hbo⟩
  have ok := rational_ok hq wfs
  have hb0 : 0 < bo := low_pos ok.1.1
  refine ⟨_, rfl, _, rfl, _, _, rfl, rfl, .inl ?_, _, rfl, sg1 bb * (tp : Int), (bo : Int), rfl, by omega, big100 hbo, fun p hp => ?_⟩
  · cases bb <;> decide
  · rw [sg1_mul]
    exact k1 _ _ hq _ _ (b5.new hp) (rs5.keep (Same.new hp)) ⟨p, rfl, upd_same⟩
end Rb
set_option maxRecDepth 100000
set_option maxHeartbeats 4000000
namespace Rb
open PySem PySem.Spec PyProof.Rows L2 SX RbR
open TL (numL)
variable {P : Program} {w : World} {K : PySem.W.Frag} {mg : Str → Option Value} {base : Heap} {a : Ads}
theorem But.aw {x p : Addr} {H H1 : Hp} {o : HO} (b : But x H H1) (h : H p = none) : But x H (upd H1 p o) := fun c u n e => by rw [upd_ne (ne_of_none e h)]; exact b c u n e
theorem But.free {x l : Addr} {H H1 : Hp} (b : But x H H1) (h : H1 l = none) (hx : l ≠ x) : H l = none := by
  cases q : H l with
  | none => rfl
  | some o =>
    rw [b l o hx q] at h
    cases h
theorem RS.ins {C : Addr} {H : Hp} {x : Addr} {toks : Addr × List Tx} {ts : List Tx} {d : Nat} (h : RS C H x toks ts d) : ∃ dx fs, H x = some (.ins C dx fs) ∧ fs.lookup ("token" : Str) = none ∧ fs.lookup ("fail" : Str) = none := by
  obtain ⟨_, _, _, l, dx, n, m, _, _, hx, _⟩ := h
  exact ⟨dx, _, hx, rfl, rfl⟩
def NumsL (H : Hp) (u : V) (qs : List Rt) : Prop := ∃ l vs, u = .ref l ∧ H l = some (.lst vs) ∧ RtsAt H vs qs ∧ qs.length ≤ 1000
def spNumbers (a : Ads) : Sp := fun vs H Q E => ∃ (x : Addr) (op cl : Tx) (toks : Addr × List Tx) (ts : List Tx) (d : Nat), vs = [.ref x, .str (S op), .str (S cl)] ∧ op ≠ [] ∧ cl ≠ [] ∧ RS a.cr H x toks ts d ∧ Parses a x toks d (numbers op cl ts) NumsL H Q E
namespace D26_8
abbrev ST : Stmt := inCls 26 8
abbrev NS : List Str := ["self", "first", "last", "found"]
theorem S : FnScope NS ["self", "first", "last"] (defScope ST) := ⟨rfl, rfl, rfl, by decide +kernel, rfl, by decide +kernel, by decide +kernel⟩
end D26_8
theorem numsLoop_step {cl : Tx} {acc : List Rt} {t : Tx} {r ts1 ts2 : List Tx} {q : Rt} (h : t ≠ cl) (hc : comma acc.isEmpty (t :: r) = some ts1) (hq : rational ts1 = some (q, ts2)) : numsLoop cl acc (t :: r) = numsLoop cl (acc ++ [q]) ts2 := by
  have h1 := (rational_eats hq).2
  have h2 := (comma_eats hc).len
  rw [numsLoop, if_neg h, hc]
  simp only [hq]
  rw [dif_pos (by omega)]
theorem numsLoop_c {cl : Tx} {acc : List Rt} {t : Tx} {r : List Tx} (h : t ≠ cl) (hc : comma acc.isEmpty (t :: r) = none) : numsLoop cl acc (t :: r) = none := by
  rw [numsLoop, if_neg h, hc]
theorem numsLoop_r {cl : Tx} {acc : List Rt} {t : Tx} {r ts1 : List Tx} (h : t ≠ cl) (hc : comma acc.isEmpty (t :: r) = some ts1) (hq : rational ts1 = none) : numsLoop cl acc (t :: r) = none := by
  rw [numsLoop, if_neg h, hc]
  simp only [hq]
theorem numsLoop_e {cl : Tx} {acc : List Rt} {r : List Tx} : numsLoop cl acc (cl :: r) = some (acc, r) := by
  rw [numsLoop, if_pos rfl]
theorem pa_emp {α β : Type} {F : α → β → Prop} {l : List α} {m : List β} (h : Paired F l m) : l.isEmpty = m.isEmpty := by
  cases h <;> rfl
open D26_8 in
theorem m_numbers (T : Txt w K mg a) : Met P w K mg base (L2.CX P w) 7 a.cr "numbers" (spNumbers a) := by
  have m_token := m_token (P := P) (base := base) T
  have m_take := m_take (P := P) (base := base) T
  have m_rational := m_rational (P := P) (base := base) T
  refine metX T.r8 T.cl S (fun vs H Q E h => ?_) (fun _ _ _ _ _ _ us hl => match us, hl with | [_, _, _], _ => rfl) (fun f cdv A outer s H vs Q E hr h => ?_)
  · obtain ⟨x, _, _, _, _, _, rfl, _⟩ := h; rfl
  obtain ⟨x, op, cl, toks, ts, d, rfl, hop, hcl, rs, k1, k2⟩ := h
  refine ⟨_, (pss_cons (ps_expr (pe_m m_take hr (by decide) (passes_call (takes_of rfl rfl rfl rfl) (fun _ _ _ _ h => h)) (pv 0) (pa_cons (pv 1) pa_nil)))
  (pss_cons (ps_set (i := 3) S.nd rfl (Or.inl rfl) (pe_lst pa_nil))
  (pss_cons (ps_while (passes_of rfl) (pt_cmpR op_ne (pe_m0 m_token hr (by decide) L2.pass0 (pv 0)) (pv 2) (nomark _))
    (C8.pss_cut (ps_if (pt_cmpR (op_neL0 hr.units0) (pv 3) (pe_lst pa_nil) (nomark _))
      (pss_one (ps_expr (pe_m m_take hr (by decide) (passes_call (takes_of rfl rfl rfl rfl) (fun _ _ _ _ h => h)) (pv 0) (pa_cons pe_str pa_nil))))
      pss_nil)
    (pss_one (ps_expr (pe_bm PySem.F.plainAttrs_list PySem.F.slot_list_append PySem.F.type_list_append mt_append (pv 3) (pa_cons (pe_m0 m_rational hr (by decide) (passes_call (takes_of rfl rfl rfl rfl) (fun _ _ _ _ h => h)) (pv 0)) pa_nil))))))
  (pss_cons (ps_fldaug (pv 0) pe_int in_add)
  (pss_one (ps_ret (pv 3))))))), ?_⟩
  obtain ⟨t, r, rfl, _⟩ := rs.cur
  obtain ⟨_, _, h3, l0, dx, n, m, _, _, hx, _⟩ := id rs
  refine ⟨_, rfl, x, dx, _, rfl, hx, rfl, _, rfl, x, toks, r, t, op, d, rfl, rs, fun hto H1 b1 rs1 => ?_, fun hto => k2 (if_neg hto)⟩
  have rs1 := rs1 hop
  have hnum : numbers op cl (t :: r) = numsLoop cl [] r := if_pos hto
  obtain ⟨_, _, ⟨hlen, _⟩, _, dx1, n1, m1, e4, _, hx1, _⟩ := id rs1
  refine ⟨by decide, fun l hl1 => ?_⟩
  have hlx : l ≠ x := fun q => by rw [q, hx1] at hl1; cases hl1
  have hl0 : H l = none := b1.free hl1 hlx
  have hlt : l ≠ toks.1 := rs1.fresh hl1
  refine ⟨fun m σ H' => ∃ (ts' : List Tx) (acc : List Rt) (vs : List V), m = ts'.length ∧ σ = [some (.ref x), some (.str (S op)), some (.str (S cl)), some (.ref l)] ∧ But x H H' ∧ RS a.cr H' x toks ts' d ∧ H' l = some (.lst vs) ∧ RtsAt H' vs acc ∧ acc.length + ts'.length ≤ 1000 ∧ numbers op cl (t :: r) = numsLoop cl acc ts',
    ⟨_, r, [], [], rfl, rfl, b1.new hl1, rs1.keep (Same.new hl1), upd_same, .nil, by simp; omega, hnum⟩, ?_⟩
  rintro m σ H2 ⟨ts', acc, vs, rfl, rfl, b2, rs2, hv, hr2, hle, hn2⟩
  obtain ⟨t2, r2, rfl, _⟩ := rs2.cur
  obtain ⟨l2, dx2, n2, m2, hx2, hm2, st2⟩ := rs2.step
  have hvl := Paired.length hr2
  refine ⟨_, rfl, x, dx2, _, rfl, hx2, rfl, ⟨x, toks, r2, t2, d, rfl, rs2, _, rfl, rfl, _, rfl, ?_⟩⟩
  rw [neS]
  by_cases hcl2 : t2 = cl
  · refine ifF (nF (decide_eq_true hcl2)) ⟨_, rfl, x, a.cr, dx2, _, _, rfl, hx2, T.cl, T.nAt, rfs_at l2 n2 m2, _, _, rfl, rfl, dx2, _, hx2, by show 3 < 1000; decide, _, rfl, ?_⟩
    refine k1 acc r2 (by rw [hn2, hcl2, numsLoop_e]) _ _ b2.put (st2 _ rfl (by rw [hcl2]; exact hcl)) ⟨l, vs, rfl, by rw [upd_ne hlx]; exact hv, ?_, by omega⟩
    exact RtsAt.kt (((But.refl x H2).put).kt fun xs q => by rw [hx2] at q; cases q) hr2
  · refine ifT (nT (decide_eq_false hcl2)) ⟨fun σ' H' => ∃ (ts' : List Tx) (acc : List Rt) (vs : List V), ts'.length < (t2 :: r2).length ∧ σ' = [some (.ref x), some (.str (S op)), some (.str (S cl)), some (.ref l)] ∧ But x H H' ∧ RS a.cr H' x toks ts' d ∧ H' l = some (.lst vs) ∧ RtsAt H' vs acc ∧ acc.length + ts'.length ≤ 1000 ∧ numbers op cl (t :: r) = numsLoop cl acc ts',
      fun σ' H' ⟨ts', acc, vs, q1, q2, q3⟩ => ⟨_, q1, ts', acc, vs, rfl, q2, q3⟩, ?_⟩
    refine ⟨fun σ' H' => ∃ ts1, comma acc.isEmpty (t2 :: r2) = some ts1 ∧ σ' = [some (.ref x), some (.str (S op)), some (.str (S cl)), some (.ref l)] ∧ But x H H' ∧ RS a.cr H' x toks ts1 d ∧ H' l = some (.lst vs) ∧ RtsAt H' vs acc, ?_, ?_⟩
    · refine ⟨_, rfl, by decide, fun p hp => ⟨l, p, vs, rfl, rfl, ?_, upd_same, _, rfl, ?_⟩⟩
      · rw [upd_ne (ne_of_none hv hp)]; exact hv
      have b3 := b2.new (o := .lst []) hp
      have rs3 := rs2.keep (Same.new (o := .lst []) hp)
      have hv3 : (upd H2 p (.lst [])) l = some (.lst vs) := by rw [upd_ne (ne_of_none hv hp)]; exact hv
      have hr3 := RtsAt.kt (Same.new (o := .lst []) hp).kt hr2
      generalize upd H2 p (.lst []) = H3 at b3 rs3 hv3 hr3
      obtain ⟨_, _, _, _, dx3, n3, m3, _, _, hx3, _⟩ := id rs3
      have e : vs.isEmpty = acc.isEmpty := pa_emp hr3
      cases he : acc.isEmpty with
      | true =>
        refine ifF (by rw [if_pos rfl, e, he]; rfl) ⟨t2 :: r2, rfl, rfl, b3, rs3, hv3, hr3⟩
      | false =>
        refine ifT (by rw [if_pos rfl, e, he]; rfl) ⟨_, rfl, x, dx3, _, rfl, hx3, rfl, x, toks, r2, t2, [44], d, rfl, rs3, fun h44 H4 b4 rs4 => ⟨r2, ?_, rfl, b3.trans b4, rs4 (by decide), b4 l _ hlx hv3, ?_⟩, fun h44 => (k2 ?_).mono b3⟩
        · show (if t2 = [44] then some r2 else none) = _
          rw [if_pos h44]
        · exact RtsAt.kt (b4.kt fun xs q => by rw [hx3] at q; cases q) hr3
        · rw [hn2]
          refine numsLoop_c hcl2 ?_
          rw [he]
          show (if t2 = [44] then some r2 else none) = _
          rw [if_neg h44]
    · rintro σ' H4 ⟨ts1, hcm, rfl, b4, rs4, hv4, hr4⟩
      obtain ⟨_, _, _, _, dx4, n4, m4, _, _, hx4, _⟩ := id rs4
      refine ⟨_, rfl, .inl ⟨rfl, _, SqL.of hv4⟩, _, rfl, x, dx4, _, rfl, hx4, rfl, x, toks, ts1, d, rfl, rs4, fun q r5 hq u H5 b5 rs5 hu => ?_, fun hq => (k2 (by rw [hn2]; exact numsLoop_r hcl2 hcm hq)).mono b4⟩
      have hv5 := b5 l _ hlx hv4
      have k5 : KT H4 H5 := b5.kt fun xs q => by rw [hx4] at q; cases q
      have hq1 := (rational_eats hq).2
      have hc1 := (comma_eats hcm).len
      refine ⟨l, vs, u, rfl, rfl, hv5, szLt (by omega), r5, acc ++ [q], vs ++ [u], by omega, rfl, (b4.trans b5).aw hl0, rs5.other hv5 hlt, upd_same, ?_, by simp; simp at hle hc1; omega, by rw [hn2]; exact numsLoop_step hcl2 hcm hq⟩
      have k6 : KT H5 (upd H5 l (.lst (vs ++ [u]))) := fun b xs z => by
        rw [upd_ne (fun zz => by rw [zz, hv5] at z; cases z)]; exact z
      exact RtsAt.kt (k5.trans k6) (pa_app hr4 .nil) |> fun h => by
        rw [List.append_nil, List.append_nil] at h
        exact pa_app h (.cons (hu.kt k6) .nil)
end Rb
set_option maxRecDepth 100000
set_option maxHeartbeats 4000000
namespace Rb
open PySem PySem.Spec PyProof.Rows L2 SX RbR
open TL (numL)
variable {P : Program} {w : World} {K : PySem.W.Frag} {mg : Str → Option Value} {base : Heap} {a : Ads}
/-! ### term, from within parentheses: below D -/
def spRec (a : Ads) (D : Nat) : Sp := fun vs H Q E => ∃ (x : Addr) (toks : Addr × List Tx) (ts : List Tx) (d : Nat), vs = [.ref x, .int 1] ∧ RS a.cr H x toks ts d ∧ d + 1 ≤ D ∧ Parses a x toks d (Rb.P d ts) TreeAt H Q E
def ArgAt (H : Hp) (u : V) : Arg → Prop
  | .num n => u = .int (n : Nat)
  | .poly p => NumsT H u p
  | .sub t => TreeAt H u t
theorem ArgAt.kt {H H' : Hp} (k : KT H H') {u : V} : ∀ {g : Arg}, ArgAt H u g → ArgAt H' u g
  | .num _, h => h
  | .poly _, h => NumsT.kt k h
  | .sub _, h => TreeAt.kt k h
def arg1 (d : Nat) (wd : Tx) (s i : Nat) (ts : List Tx) : Res Arg := match comma (decide (i = 0)) ts with
  | none => none
  | some ts1 => argM (Rb.P d) wd s ts1
def spArg (a : Ads) (D : Nat) : Sp := fun vs H Q E => ∃ (x : Addr) (toks : Addr × List Tx) (ts : List Tx) (d s i : Nat) (wd : Tx), vs = [.ref x, .str (S [s]), .int (i : Nat)] ∧ RS a.cr H x toks ts d ∧ d + 1 ≤ D ∧
  (s = 112 ∨ s = 110 ∨ s = 101) ∧ (s = 112 → i = 0 ∧ ∃ pre, toks.2 = pre ++ wd :: [40] :: ts) ∧ Parses a x toks d (arg1 d wd s i ts) ArgAt H Q E
namespace D26_12
abbrev ST : Stmt := inCls 26 12
abbrev NS : List Str := ["self", "sign", "at", "start", "found"]
theorem S : FnScope NS ["self", "sign", "at"] (defScope ST) := ⟨rfl, rfl, rfl, by decide +kernel, rfl, by decide +kernel, by decide +kernel⟩
end D26_12
open D26_12 in
theorem m_argument (T : Txt w K mg a) (D : Nat) (m_term : Met P w K mg base (L2.CX P w) (6 + 8 * D) a.cr "term" (spRec a D)) : Met P w K mg base (L2.CX P w) (7 + 8 * D + 1) a.cr "argument" (spArg a D) := by
  have m_take := m_take (P := P) (base := base) T
  have m_natural := m_natural (P := P) (base := base) T
  have m_numbers := m_numbers (P := P) (base := base) T
  have m_fail := m_fail (P := P) (base := base) T
  have c_trimmed := c_trimmed (P := P) (base := base) T
  refine metX T.r12 T.cl S (fun vs H Q E h => ?_) (fun _ _ _ _ _ _ us hl => match us, hl with | [_, _, _], _ => rfl) (fun f cdv A outer s H vs Q E hr h => ?_)
  · obtain ⟨x, _, _, _, _, _, _, rfl, _⟩ := h; rfl
  obtain ⟨x, toks, ts, d, sg, i, wd, rfl, rs, hD, hs3, hs, k1, k2⟩ := h
  refine ⟨_, (C8.pss_cut (ps_if (pt_cmpR op_gt (pv 2) pe_int (nomark _))
    (pss_one (ps_expr (pe_m m_take hr (by omega) (passes_call (takes_of rfl rfl rfl rfl) (fun _ _ _ _ h => h)) (pv 0) (pa_cons pe_str pa_nil))))
    pss_nil)
  (pss_cons (ps_if (pt_cmpR op_eq (pv 1) pe_str (nomark _))
    (pss_one (ps_ret (pe_m0 m_natural hr (by omega) (passes_call (takes_of rfl rfl rfl rfl) (fun _ _ _ _ h => h)) (pv 0))))
    pss_nil)
  (pss_cons (ps_if (pt_cmpR op_eq (pv 1) pe_str (nomark _))
    (pss_one (ps_ret (pe_m m_term hr (by omega) (passes_call (takes_of rfl rfl rfl rfl) (fun _ _ _ _ h => h)) (pv 0) (pa_cons pe_int pa_nil))))
    pss_nil)
  (pss_cons (ps_set (i := 3) S.nd rfl (Or.inl rfl) (pe_fld (pv 0) rfl))
  (pss_cons (ps_set (i := 4) S.nd rfl (Or.inl rfl) (pe_k c_trimmed hr (by omega) rfl L2.pass0 (pa_cons (pe_m m_numbers hr (by omega) (passes_call (takes_of rfl rfl rfl rfl) (fun _ _ _ _ h => h)) (pv 0) (pa_cons pe_str (pa_cons pe_str pa_nil))) pa_nil)))
  (pss_cons (ps_if (PW.pt (pw_and (pt_cmpR (op_eqT0 hr.units0) (pv 4) (pe_tup pa_nil) (nomark _)) (pw_and1 (pt_cmpR op_eq (pe_ix ix_tup (pe_ix ix_list (pe_fld (pv 0) rfl) (pe_op op_sub (pv 3) pe_int) (fun _ _ => rfl)) pe_int (fun _ _ => rfl)) pe_str (nomark _)))))
    (pss_cons (ps_fld (pv 0) (pv 3) rfl)
    (pss_one (ps_expr (pe_m0 m_fail hr (by omega) (passes_call (takes_of rfl rfl rfl rfl) (fun _ _ _ _ h => h)) (pv 0)))))
    pss_nil)
  (pss_one (ps_ret (pv 4))))))))), ?_⟩
  obtain ⟨t, r, rfl, _⟩ := rs.cur
  obtain ⟨_, _, _, l0, dx, n, m, _, _, hx, _⟩ := id rs
  refine ⟨fun σ' H' => ∃ ts1, comma (decide (i = 0)) (t :: r) = some ts1 ∧ σ' = [some (.ref x), some (.str (S [sg])), some (.int (i : Nat)), none, none] ∧ But x H H' ∧ RS a.cr H' x toks ts1 d, ?_, ?_⟩
  · refine ⟨_, rfl, _, _, rfl, rfl, _, rfl, ?_⟩
    by_cases h0 : i = 0
    · exact ifF (decide_eq_false (by omega)) ⟨t :: r, by rw [decide_eq_true h0]; rfl, rfl, But.refl x H, rs⟩
    · have hc : ∀ b, comma (decide (i = 0)) (t :: r) = b ↔ (if t = [44] then some r else none) = b := fun b => by
        rw [decide_eq_false h0]; exact Iff.rfl
      refine ifT (decide_eq_true (by omega)) ⟨_, rfl, x, dx, _, rfl, hx, rfl, x, toks, r, t, [44], d, rfl, rs, fun h44 H1 b1 rs1 => ⟨r, (hc _).mpr (if_pos h44), rfl, b1, rs1 (by decide)⟩, fun h44 => k2 ?_⟩
      unfold arg1
      rw [(hc none).mpr (if_neg h44)]
  rintro σ1 H1 ⟨ts1, hcm, rfl, b1, rs1⟩
  have har : arg1 d wd sg i (t :: r) = argM (Rb.P d) wd sg ts1 := by
    unfold arg1
    rw [hcm]
  rw [har] at k1 k2
  obtain ⟨_, _, _, l1, dx1, n1, m1, h4, h5, hx1, h7⟩ := id rs1
  refine ⟨_, rfl, rfl, _, rfl, ?_⟩
  rw [show (V.str "n") = V.str (S [110]) from rfl, neS]
  by_cases hn : sg = 110
  · subst hn
    refine ifT (decide_eq_true rfl) ⟨_, rfl, x, dx1, _, rfl, hx1, rfl, x, toks, ts1, d, rfl, rs1, fun v r2 hv u H2 b2 rs2 hu => ?_, fun hv => (k2 ?_).mono b1⟩
    · exact k1 (.num v) r2 (by unfold argM; rw [if_pos rfl, hv]) u H2 (b1.trans b2) rs2 hu
    · unfold argM; rw [if_pos rfl, hv]
  refine ifF (decide_eq_false fun q => hn (by simpa using q)) ⟨_, rfl, rfl, _, rfl, ?_⟩
  rw [show (V.str "e") = V.str (S [101]) from rfl, neS]
  by_cases he : sg = 101
  · subst he
    refine ifT (decide_eq_true rfl) ⟨_, rfl, x, dx1, _, rfl, hx1, rfl, x, toks, ts1, d, rfl, rs1, hD, fun v r2 hv u H2 b2 rs2 hu => ?_, fun hv => (k2 ?_).mono b1⟩
    · exact k1 (.sub v) r2 (by unfold argM; rw [if_neg (by decide), if_pos rfl, hv]) u H2 (b1.trans b2) rs2 hu
    · unfold argM; rw [if_neg (by decide), if_pos rfl, hv]
  have hp : sg = 112 := by omega
  subst hp
  obtain ⟨hi0, pre, epre⟩ := hs rfl
  have hts : ts1 = t :: r := by
    rw [decide_eq_true hi0] at hcm
    cases hcm
    rfl
  subst hts
  have ham : argM (Rb.P d) wd 112 (t :: r) = match numbers [91] [93] (t :: r) with | none => none | some (p, r) => if trim p = [] ∧ wd = wRoots then none else some (.poly (trim p), r) := rfl
  rw [ham] at k1 k2
  refine ifF (decide_eq_false (by decide)) ⟨_, rfl, x, a.cr, dx1, _, _, rfl, hx1, T.cl, T.nAt, rfs_at l1 n1 m1, ?_⟩
  refine ⟨_, rfl, x, dx1, _, rfl, hx1, rfl, x, [91], [93], toks, t :: r, d, rfl, by decide, by decide, rs1, fun p r2 hv u H2 b2 rs2 hu => ?_, fun hv => (k2 (by rw [hv])).mono b1⟩
  rw [hv] at k1 k2
  obtain ⟨l, vs, rfl, hl, hp2, hlen⟩ := hu
  refine ⟨l, vs, p, rfl, hl, hp2, hlen, fun H3 v3 sm3 hn3 => ?_⟩
  obtain ⟨b3, vs3, rfl, hb3, hr3⟩ := hn3
  refine ⟨_, rfl, by decide, fun q hq => ⟨b3, q, vs3, rfl, rfl, SqT.of (by rw [upd_ne (ne_of_none hb3 hq)]; exact hb3), SqT.of upd_same, _, rfl, ?_⟩⟩
  have sm4 : Same H2 (upd H3 q (.tup [])) := sm3.trans (Same.new hq)
  have rs4 := rs2.keep sm4
  have b4 : But x H (upd H3 q (.tup [])) := (b1.trans b2).same sm4
  have hn4 : NumsT (upd H3 q (.tup [])) (.ref b3) (trim p) := NumsT.kt (Same.new hq).kt ⟨b3, vs3, rfl, hb3, hr3⟩
  generalize upd H3 q (.tup []) = H4 at sm4 rs4 b4 hn4
  have e3 : vs3.isEmpty = (trim p).isEmpty := pa_emp hr3
  rw [if_neg (by decide), e3]
  cases ht : trim p with
  | cons y ys =>
    have hne : ¬ (trim p = [] ∧ wd = wRoots) := fun q => by rw [ht] at q; cases q.1
    refine ifF rfl (ifF rfl ⟨_, rfl, k1 (.poly (trim p)) r2 (if_neg hne) _ _ b4 rs4 hn4⟩)
  | nil =>
    obtain ⟨g1, g2, g3, l4, dx4, n4, m4, g4, g5, hx4, g7⟩ := id rs4
    have hn1 : n1 = pre.length + 2 := by
      have := congrArg List.length epre
      simp at this h4
      omega
    obtain ⟨vt, bt, pt, hlt, hvt, hbt⟩ := toks_at g7.2 epre rfl
    refine ifT rfl ⟨_, rfl, x, a.cr, dx4, _, _, rfl, hx4, T.cl, T.nTok, rfs_tok l4 n4 m4, _, rfl, _, _, rfl, rfl, l4, vt, _, _, rfl, rfl, SqL.of hlt, at_of (j := pre.length) (by omega) hvt, bt, _, _, _, rfl, rfl, SqT.of hbt, atI_nat (j := 1) rfl, rfl, _, rfl, ?_⟩
    rw [show (V.str "roots") = V.str (S wRoots) from rfl, neS]
    by_cases hw : wd = wRoots
    · refine ifT (decide_eq_true hw) ⟨_, rfl, _, rfl, x, a.cr, dx4, _, rfl, hx4, T.cl, T.nAt, by show 3 < 1000; decide, ?_⟩
      rw [put_at l4 n4 m4 (.int (n1 : Nat)) n1 rfl]
      have b5 : But x H (upd H4 x (.ins a.cr dx4 (rfs l4 n1 m4))) := b4.put
      obtain ⟨p1, p2, _⟩ := id rs1
      have rs5 : RS a.cr (upd H4 x (.ins a.cr dx4 (rfs l4 n1 m4))) x toks (t :: r) d := ⟨p1, p2, g3, l4, dx4, n1, m4, h4, g5, upd_same, g7.but ((But.refl x H4).put) hx4⟩
      exact ⟨_, rfl, x, dx4, _, rfl, upd_same, rfl, x, toks, t :: r, d, rfl, rs5, (k2 (if_pos ⟨ht, hw⟩)).mono b5⟩
    · have hne : ¬ (trim p = [] ∧ wd = wRoots) := fun q => hw q.2
      exact ifF (decide_eq_false hw) ⟨_, rfl, k1 (.poly (trim p)) r2 (if_neg hne) _ _ b4 rs4 hn4⟩
end Rb
set_option maxRecDepth 100000
set_option maxHeartbeats 4000000
namespace Rb
open PySem PySem.Spec PyProof.Rows L2 SX RbR
open TL (numL)
/-! ### functions: their arguments -/
def glue (as : List Arg) (m : Res (List Arg)) : Res (List Arg) := match m with
  | none => none
  | some (bs, r) => some (as ++ bs, r)
theorem args_step {d : Nat} {w : Tx} {s : Nat} {ss : List Nat} {i : Nat} {ts : List Tx} : argsM (Rb.P d) w (s :: ss) (decide (i = 0)) ts = (match arg1 d w s i ts with
  | none => none
  | some (g, ts2) => glue [g] (argsM (Rb.P d) w ss false ts2)) := by
  unfold arg1
  show (match comma (decide (i = 0)) ts with | none => none | some ts1 => _) = _
  cases comma (decide (i = 0)) ts with
  | none => rfl
  | some ts1 =>
    show (match argM (Rb.P d) w s ts1 with | none => none | some (g, ts2) => _) = (match argM (Rb.P d) w s ts1 with | none => none | some (g, ts2) => _)
    cases argM (Rb.P d) w s ts1 with
    | none => rfl
    | some z =>
      obtain ⟨g, ts2⟩ := z
      show (match argsM (Rb.P d) w ss false ts2 with | none => none | some (as, ts3) => some (g :: as, ts3)) = glue [g] (argsM (Rb.P d) w ss false ts2)
      cases argsM (Rb.P d) w ss false ts2 with
      | none => rfl
      | some z => rfl
theorem glue_glue (as bs : List Arg) (m : Res (List Arg)) : glue as (glue bs m) = glue (as ++ bs) m := by
  cases m with
  | none => rfl
  | some z =>
    show some (as ++ (bs ++ z.1), z.2) = some (as ++ bs ++ z.1, z.2)
    rw [List.append_assoc]
theorem form_tab {t : Tx} : (∀ fs, formOf t = some fs → tForms.lookup (S t) = some (.str (S fs))) ∧ (formOf t = none → tForms.lookup (S t) = none) := by
  have e : tForms = [(S wRoots, V.str (S [112])), (S wUnity, V.str (S [110])), (S wMap, V.str (S [112, 101])), (S wSums, V.str (S [101, 110])), (S wProds, V.str (S [101, 110])), (S wDist, V.str (S [101])), (S wComm, V.str (S [101, 101])), (S wWout, V.str (S [101, 101]))] := by decide +kernel
  rw [e]
  unfold formOf
  simp only [List.lookup_cons, S_beq_eq, List.lookup_nil]
  by_cases h1 : t = wRoots
  · subst h1; simp
  by_cases h2 : t = wUnity
  · subst h2; simp [h1]
  by_cases h3 : t = wMap
  · subst h3; simp [h1, h2]
  by_cases h4 : t = wSums
  · subst h4; simp [h1, h2, h3]
  by_cases h5 : t = wProds
  · subst h5; simp [h1, h2, h3, h4]
  by_cases h6 : t = wDist
  · subst h6; simp [h1, h2, h3, h4, h5]
  by_cases h7 : t = wComm
  · subst h7; simp [h1, h2, h3, h4, h5, h6]
  by_cases h8 : t = wWout
  · subst h8; simp [h1, h2, h3, h4, h5, h6, h7]
  simp [h1, h2, h3, h4, h5, h6, h7, h8]
theorem form_sign {t : Tx} {fs : List Nat} (h : formOf t = some fs) {i s : Nat} (hs : fs[i]? = some s) : (s = 112 ∨ s = 110 ∨ s = 101) ∧ (s = 112 → i = 0) := by
  rcases form_cases h with ⟨_, rfl⟩ | ⟨_, rfl⟩ | ⟨_, rfl⟩ | ⟨_, rfl⟩ | ⟨_, rfl⟩ | ⟨_, rfl⟩ | ⟨_, rfl⟩ | ⟨_, rfl⟩ <;>
  · rcases i with _ | _ | i <;> simp at hs <;> subst hs <;> simp
theorem form_len {t : Tx} {fs : List Nat} (h : formOf t = some fs) : 0 < fs.length ∧ fs.length ≤ 2 := by
  rcases form_cases h with ⟨_, rfl⟩ | ⟨_, rfl⟩ | ⟨_, rfl⟩ | ⟨_, rfl⟩ | ⟨_, rfl⟩ | ⟨_, rfl⟩ | ⟨_, rfl⟩ | ⟨_, rfl⟩ <;> decide
theorem mk_some {f : List Tx → Res Tm} {t : Tx} {fs : List Nat} {ts r : List Tx} {as : List Arg} (h : formOf t = some fs) (ha : argsM f t fs true ts = some (as, r)) : ∃ T, mk t as = some T := by
  have sg : ∀ {s : Nat} {ts r : List Tx} {g : Arg}, argM f t s ts = some (g, r) → (s = 110 → ∃ n, g = .num n) ∧ (s = 101 → ∃ x, g = .sub x) ∧ (s ≠ 110 → s ≠ 101 → ∃ p, g = .poly p) := fun {s ts r g} q => by
    rcases argM_inv q with ⟨rfl, n, _, e⟩ | ⟨rfl, x, _, e⟩ | ⟨h1, h2, p, q⟩
    · exact ⟨fun _ => ⟨n, e⟩, fun z => (nomatch z), fun z => (z rfl).elim⟩
    · exact ⟨fun z => (nomatch z), fun _ => ⟨x, e⟩, fun _ z => (z rfl).elim⟩
    · refine ⟨fun z => (h1 z).elim, fun z => (h2 z).elim, fun _ _ => ?_⟩
      obtain ⟨_, _, e⟩ := q
      first
      | exact ⟨_, e⟩
      | exact ⟨_, e.1⟩
      | exact ⟨_, e.2⟩
  rcases form_cases h with ⟨rfl, rfl⟩ | ⟨rfl, rfl⟩ | ⟨rfl, rfl⟩ | ⟨rfl, rfl⟩ | ⟨rfl, rfl⟩ | ⟨rfl, rfl⟩ | ⟨rfl, rfl⟩ | ⟨rfl, rfl⟩
  · obtain ⟨g, h1, rfl⟩ := args1 ha
    obtain ⟨p, rfl⟩ := (sg h1).2.2 (by decide) (by decide)
    exact ⟨_, rfl⟩
  · obtain ⟨g, h1, rfl⟩ := args1 ha
    obtain ⟨p, rfl⟩ := (sg h1).1 rfl
    exact ⟨_, rfl⟩
  · obtain ⟨g, g2, _, _, h1, _, h2, rfl⟩ := args2 ha
    obtain ⟨p, rfl⟩ := (sg h1).2.2 (by decide) (by decide)
    obtain ⟨x, rfl⟩ := (sg h2).2.1 rfl
    exact ⟨_, rfl⟩
  · obtain ⟨g, g2, _, _, h1, _, h2, rfl⟩ := args2 ha
    obtain ⟨p, rfl⟩ := (sg h1).2.1 rfl
    obtain ⟨x, rfl⟩ := (sg h2).1 rfl
    exact ⟨_, rfl⟩
  · obtain ⟨g, g2, _, _, h1, _, h2, rfl⟩ := args2 ha
    obtain ⟨p, rfl⟩ := (sg h1).2.1 rfl
    obtain ⟨x, rfl⟩ := (sg h2).1 rfl
    exact ⟨_, rfl⟩
  · obtain ⟨g, h1, rfl⟩ := args1 ha
    obtain ⟨p, rfl⟩ := (sg h1).2.1 rfl
    exact ⟨_, rfl⟩
  · obtain ⟨g, g2, _, _, h1, _, h2, rfl⟩ := args2 ha
    obtain ⟨p, rfl⟩ := (sg h1).2.1 rfl
    obtain ⟨x, rfl⟩ := (sg h2).2.1 rfl
    exact ⟨_, rfl⟩
  · obtain ⟨g, g2, _, _, h1, _, h2, rfl⟩ := args2 ha
    obtain ⟨p, rfl⟩ := (sg h1).2.1 rfl
    obtain ⟨x, rfl⟩ := (sg h2).2.1 rfl
    exact ⟨_, rfl⟩
theorem mk_tree {H : Hp} {p : Addr} {t : Tx} {us : List V} {as : List Arg} {T : Tm} (hu : Paired (ArgAt H) us as) (hm : mk t as = some T) (hp : H p = some (.tup (.str (S t) :: us))) : TreeAt H (.ref p) T := by
  unfold mk at hm
  split at hm
  · cases hu with
    | cons h r =>
      cases r
      split at hm
      · rename_i e; subst e; cases hm
        exact ⟨p, _, rfl, hp, h⟩
      · cases hm
  · cases hu with
    | cons h r =>
      cases r
      have h' : _ = V.int _ := h
      subst h'
      split at hm
      · rename_i e; subst e; cases hm
        exact ⟨p, rfl, hp⟩
      · cases hm
  · cases hu with
    | cons h r =>
      cases r with
      | cons h2 r =>
        cases r
        split at hm
        · rename_i e; subst e; cases hm
          exact ⟨p, _, _, rfl, hp, h, h2⟩
        · cases hm
  · cases hu with
    | cons h r =>
      cases r with
      | cons h2 r =>
        cases r
        have h' : _ = V.int _ := h2
        subst h'
        split at hm
        · rename_i e; subst e; cases hm
          exact ⟨p, _, rfl, hp, h⟩
        · split at hm
          · rename_i e; subst e; cases hm
            exact ⟨p, _, rfl, hp, h⟩
          · cases hm
  · cases hu with
    | cons h r =>
      cases r
      split at hm
      · rename_i e; subst e; cases hm
        exact ⟨p, _, rfl, hp, h⟩
      · cases hm
  · cases hu with
    | cons h r =>
      cases r with
      | cons h2 r =>
        cases r
        split at hm
        · rename_i e; subst e; cases hm
          exact ⟨p, _, _, rfl, hp, h, h2⟩
        · split at hm
          · rename_i e; subst e; cases hm
            exact ⟨p, _, _, rfl, hp, h, h2⟩
          · cases hm
  · cases hm
theorem drop_at {α : Type} {l : List α} {i : Nat} {x : α} (h : l[i]? = some x) : l.drop i = x :: l.drop (i + 1) := by
  obtain ⟨he, hc⟩ := List.getElem?_eq_some_iff.mp h
  rw [← hc]; exact List.drop_eq_getElem_cons he
theorem first_let (t : Tx) : (match t with | [] => false | c :: _ => decide (c ∈ lets)) = headL t := by
  cases t with
  | nil => rfl
  | cons c r => exact mem_let c
end Rb
set_option maxRecDepth 100000
set_option maxHeartbeats 4000000
namespace Rb
open PySem PySem.Spec PyProof.Rows L2 SX RbR
open TL (numL)
variable {P : Program} {w : World} {K : PySem.W.Frag} {mg : Str → Option Value} {base : Heap} {a : Ads}
def spAtom (a : Ads) (D : Nat) : Sp := fun vs H Q E => ∃ (x : Addr) (toks : Addr × List Tx) (ts : List Tx) (d : Nat), vs = [.ref x] ∧ RS a.cr H x toks ts d ∧ d ≤ D ∧ Parses a x toks d (atomM (rcd d) ts) TreeAt H Q E
namespace D26_11
abbrev ST : Stmt := inCls 26 11
abbrev NS : List Str := ["self", "token", "found", "at", "sign"]
theorem S : FnScope NS ["self"] (defScope ST) := ⟨rfl, rfl, rfl, by decide +kernel, rfl, by decide +kernel, by decide +kernel⟩
end D26_11
open D26_11 in
theorem m_atom (T : Txt w K mg a) (D : Nat) (m_term : Met P w K mg base (L2.CX P w) (6 + 8 * D) a.cr "term" (spRec a D)) : Met P w K mg base (L2.CX P w) (8 + 8 * D + 1) a.cr "atom" (spAtom a D) := by
  have m_token := m_token (P := P) (base := base) T
  have m_take := m_take (P := P) (base := base) T
  have m_numbers := m_numbers (P := P) (base := base) T
  have m_fail := m_fail (P := P) (base := base) T
  have m_enter := m_enter (P := P) (base := base) T
  have m_leave := m_leave (P := P) (base := base) T
  have m_argument := m_argument T D m_term
  refine metX T.r11 T.cl S (fun vs H Q E h => ?_) (fun _ _ _ _ _ _ us hl => match us, hl with | [_], _ => rfl) (fun f cdv A outer s H vs Q E hr h => ?_)
  · obtain ⟨x, _, _, _, rfl, _⟩ := h; rfl
  obtain ⟨x, toks, ts, d, rfl, rs, hD, k1, k2⟩ := h
  refine ⟨_, (pss_cons (ps_set (i := 1) S.nd rfl (Or.inl rfl) (pe_m0 m_token hr (by omega) L2.pass0 (pv 0)))
  (pss_cons (ps_if (pt_cmpR op_eq (pv 1) pe_str (nomark _))
    (pss_one (ps_ret (pe_tup (pa_cons pe_str (pa_cons (pe_callTy call_tuple_of rfl T.bTup (by decide +kernel) (pa_cons (pe_m m_numbers hr (by omega) (passes_call (takes_of rfl rfl rfl rfl) (fun _ _ _ _ h => h)) (pv 0) (pa_cons pe_str (pa_cons pe_str pa_nil))) pa_nil)) pa_nil)))))
    pss_nil)
  (pss_cons (ps_if (pt_cmpR op_eq (pv 1) pe_str (nomark _))
    (pss_cons (ps_expr (pe_m0 m_enter hr (by omega) (passes_call (takes_of rfl rfl rfl rfl) (fun _ _ _ _ h => h)) (pv 0)))
    (pss_cons (ps_set (i := 2) S.nd rfl (Or.inl rfl) (pe_m m_term hr (by omega) (passes_call (takes_of rfl rfl rfl rfl) (fun _ _ _ _ h => h)) (pv 0) (pa_cons pe_int pa_nil)))
    (pss_cons (ps_expr (pe_m0 m_leave hr (by omega) (passes_call (takes_of rfl rfl rfl rfl) (fun _ _ _ _ h => h)) (pv 0)))
    (pss_one (ps_ret (pv 2))))))
    pss_nil)
  (pss_cons (ps_if (pt_cmpR op_notIn_seq (pe_slice sl_str (pv 1) po_none (po_some pe_int)) (pe_callTy (call_list_text rfl) rfl T.bLst (by decide +kernel) (pa_cons (C8.pe_gc rfl T.cLet) pa_nil)) rfl)
    (pss_one (ps_expr (pe_m0 m_fail hr (by omega) (passes_call (takes_of rfl rfl rfl rfl) (fun _ _ _ _ h => h)) (pv 0))))
    pss_nil)
  (pss_cons (ps_if (pt_cmpR op_ne (pe_ix ix_tup (pe_ix ix_list (pe_fld (pv 0) rfl) (pe_op op_add (pe_fld (pv 0) rfl) pe_int) (fun _ _ => rfl)) pe_int (fun _ _ => rfl)) pe_str (nomark _))
    (pss_cons (ps_if (pt_cmpR op_gt (pe_callB call_len_str rfl T.bLen (by decide +kernel) (pa_cons (pv 1) pa_nil)) pe_int (nomark _))
      (pss_one (ps_expr (pe_m0 m_fail hr (by omega) (passes_call (takes_of rfl rfl rfl rfl) (fun _ _ _ _ h => h)) (pv 0))))
      pss_nil)
    (pss_cons (ps_fldaug (pv 0) pe_int in_add)
    (pss_one (ps_ret (pe_tup (pa_cons pe_str (pa_cons (pv 1) pa_nil)))))))
    pss_nil)
  (pss_cons (ps_if (pt_cmpR (op_notIn_tab T.dFm) (pv 1) (C8.pe_gc rfl T.gFm) rfl)
    (pss_one (ps_expr (pe_m0 m_fail hr (by omega) (passes_call (takes_of rfl rfl rfl rfl) (fun _ _ _ _ h => h)) (pv 0))))
    pss_nil)
  (pss_cons (ps_fldaug (pv 0) pe_int in_add)
  (pss_cons (ps_expr (pe_m0 m_enter hr (by omega) (passes_call (takes_of rfl rfl rfl rfl) (fun _ _ _ _ h => h)) (pv 0)))
  (pss_cons (ps_set (i := 2) S.nd rfl (Or.inl rfl) (pe_tup (pa_cons (pv 1) (StX.pa_star (pe_lcX (own := [("at", 3), ("sign", 4)]) (g := (gTup K 2 (gCons (gName 3) (gCons (gName 4) gNil)))) (tt := tYes) (te := tMeth a.cr "argument" (spArg a D) [] E (tVar 0) (tCons (tVar 4) (tCons (tVar 3) tNil))) rfl S.nd (takes_of rfl rfl rfl rfl) rfl rfl (pi_enumT rfl T.bEnu (pa_cons (pe_ix (ix_tab T.dFm) (C8.pe_gc rfl T.gFm) (pv 1) (fun _ _ => rfl)) pa_nil)) (blkOk_by (N := NS) (sc := defScope ST) (by decide +kernel)) (fun _ _ _ _ _ => pg_tup rfl (pgs_cons (pg_name (i := 3) S.nd rfl (Or.inl rfl)) (pgs_cons (pg_name (i := 4) S.nd rfl (Or.inl rfl)) pgs_nil))) (fun _ _ _ _ _ => pts_nil) (fun _ _ _ _ _ xe hx => (pe_m m_argument hr (by omega) hx (pv 0) (pa_cons (pv 4) (pa_cons (pv 3) pa_nil))))) pa_nil))))
  (pss_cons (ps_expr (pe_m0 m_leave hr (by omega) (passes_call (takes_of rfl rfl rfl rfl) (fun _ _ _ _ h => h)) (pv 0)))
  (pss_one (ps_ret (pv 2))))))))))))), ?_⟩
  obtain ⟨t, r, rfl, hne⟩ := rs.cur
  obtain ⟨l, dx, n, m, hx, hm, st⟩ := rs.step
  refine ⟨_, rfl, x, dx, _, rfl, hx, rfl, ⟨x, toks, r, t, d, rfl, rs, _, rfl, rfl, _, rfl, ?_⟩⟩
  rw [show (V.str "{") = V.str (S [123]) from rfl, neS]
  obtain ⟨⟨pre, e1⟩, ⟨u, e2⟩, ⟨_, _, hlen⟩, _⟩ := id rs
  have hl9 := hlen t (by rw [e1]; simp)
  have hz : (S t).length ≤ sizeLine := by rw [S_len]; exact szL (by omega)
  have hat : atomM (rcd d) (t :: r) = if t = [123] then (match (generalizing := false) numbers [123] [125] (t :: r) with | none => none | some (qs, r') => some (.list qs, r')) else if t = [40] then parenM (rcd d) r
    else if headL t = true then (match (generalizing := false) r with | [] => none | t2 :: r2 => if t2 = [40] then funM (rcd d) t r2 else if t.length > 8 then none else some (.name t, t2 :: r2)) else none := rfl
  -- a list
  by_cases h1 : t = [123]
  · rw [if_pos h1] at hat
    refine ifT (decide_eq_true h1) ⟨_, rfl, x, dx, _, rfl, hx, rfl, x, [123], [125], toks, t :: r, d, rfl, by decide, by decide, rs, fun qs r2 hq v H1 b1 rs1 hv => ?_, fun hq => k2 (by rw [hat, hq])⟩
    rw [hq] at hat
    obtain ⟨l1, vs, rfl, hl1, hv1, hle⟩ := hv
    refine ⟨l1, vs, rfl, .inl ⟨SqL.of hl1, fun p hp => ⟨by show 2 ≤ sizeLine; decide, fun q hq2 => ?_⟩⟩⟩
    have sm : Same H1 (upd (upd H1 p (.tup vs)) q (.tup [.str "list", .ref p])) := (Same.new hp).trans (Same.new hq2)
    exact k1 _ _ hat _ _ (b1.same sm) (rs1.keep sm) ⟨q, .ref p, rfl, upd_same, p, vs, rfl, (Same.new hq2) _ _ upd_same, RtsAt.kt sm.kt hv1⟩
  rw [if_neg h1] at hat
  refine ifF (decide_eq_false h1) ⟨_, rfl, rfl, _, rfl, ?_⟩
  rw [show (V.str "(") = V.str (S [40]) from rfl, neS]
  -- parentheses
  by_cases h2 : t = [40]
  · rw [if_pos h2] at hat
    refine ifT (decide_eq_true h2) ⟨_, rfl, x, dx, _, rfl, hx, rfl, x, toks, r, t, d, rfl, rs, fun _ d' hd' H1 b1 rs1 => ?_, fun hf => k2 ?_⟩
    · subst hd'
      have hat : atomM (rcd (d' + 1)) (t :: r) = close (Rb.P d' r) := hat
      obtain ⟨dx1, _, hx1, _⟩ := rs1.ins
      obtain ⟨_, _, _, l1, dx1, n1, m1, _, _, hx1, _⟩ := id rs1
      refine ⟨_, rfl, x, dx1, _, rfl, hx1, rfl, x, toks, r, d', rfl, rs1, hD, fun T1 r2 hq v H2 b2 rs2 hv => ?_, fun hq => (k2 (by rw [hat, hq]; rfl)).mono b1⟩
      rw [hq] at hat
      obtain ⟨t3, r3, rfl, _⟩ := rs2.cur
      have hat : atomM (rcd (d' + 1)) (t :: r) = if t3 = [41] then some (T1, r3) else none := hat
      obtain ⟨_, _, _, l2, dx2, n2, m2, _, hm2, hx2, _⟩ := id rs2
      refine ⟨_, rfl, x, dx2, _, rfl, hx2, rfl, x, toks, r3, t3, d', rfl, by omega, rs2, fun h3 H3 b3 rs3 => ?_, fun h3 => (k2 (by rw [hat, if_neg h3])).mono (b1.trans b2)⟩
      rw [if_pos h3] at hat
      exact ⟨_, rfl, k1 _ _ hat _ _ ((b1.trans b2).trans b3) rs3 (hv.kt (b3.kt fun xs q => by rw [hx2] at q; cases q))⟩
    · rcases hf with hf | hf
      · exact (hf h2).elim
      · subst hf
        rw [hat]; rfl
  rw [if_neg h2] at hat
  refine ifF (decide_eq_false h2) ⟨_, rfl, _, rfl, _, rfl, hz, _, rfl, by decide, fun p hp => ⟨p, _, rfl, .inl (SqL.of upd_same), rfl, flat_signs _, _, rfl, ?_⟩⟩
  rw [e_let, show cutS (S t) none (some 1) = S (t.take 1) from cutS_to t 1, (in_first t lets).trans (first_let t)]
  have sm : Same H (upd H p (.lst (RbR.signs (S lets)))) := Same.new hp
  generalize upd H p (.lst (RbR.signs (S lets))) = H1 at sm
  have b1 := sm.but x
  have rs1 := rs.keep sm
  have hx1 := sm _ _ hx
  cases h3 : headL t with
  | false =>
    exact ifT rfl ⟨_, rfl, x, dx, _, rfl, hx1, rfl, x, toks, _, d, rfl, rs1, (k2 (by rw [hat, if_neg (by rw [h3]; decide)])).mono b1⟩
  | true =>
  rw [if_pos h3] at hat
  obtain ⟨u2, hu2⟩ := hne (headL_ne h3)
  obtain ⟨t2, r2, rfl⟩ : ∃ t2 r2, r = t2 :: r2 := by
    cases u2 with
    | nil => exact ⟨_, _, hu2⟩
    | cons c u2 => exact ⟨_, _, hu2⟩
  have hat : atomM (rcd d) (t :: t2 :: r2) = if t2 = [40] then funM (rcd d) t r2 else if t.length > 8 then none else some (.name t, t2 :: r2) := hat
  obtain ⟨l1, dx1, n1, m1, hx1, hm1, st1⟩ := rs1.step
  obtain ⟨_, _, _, l1', dx1', n1', m1', g4, _, hx1', g7⟩ := id rs1
  rw [hx1] at hx1'
  obtain ⟨rfl, rfl, rfl⟩ : l1' = l1 ∧ n1' = n1 ∧ m1' = m1 := by
    have e := HO.ins.inj (Option.some.inj hx1')
    have e2 := e.2.2
    unfold rfs at e2
    simp at e2
    obtain ⟨a1, a2, a3⟩ := e2
    exact ⟨a1.symm, by omega, by omega⟩
  have hn1 : n1' + 1 = (pre ++ [t]).length := by
    rw [e1, List.length_append] at g4
    simp
    simp at g4
    omega
  obtain ⟨vt, bt, pt, hlt, hvt, hbt⟩ := toks_at g7.2 (show toks.2 = (pre ++ [t]) ++ t2 :: r2 by rw [e1]; simp) hn1
  refine ifF rfl ⟨_, rfl, x, a.cr, dx1, _, _, rfl, hx1, T.cl, T.nTok, rfs_tok l1' n1' m1', _, rfl, x, a.cr, dx1, _, _, rfl, hx1, T.cl, T.nAt, rfs_at l1' n1' m1', _, _, rfl, rfl, l1', vt, _, _, rfl, rfl, SqL.of hlt, at_of (j := n1' + 1) (by omega) hvt, bt, _, _, _, rfl, rfl, SqT.of hbt, atI_nat (j := 1) rfl, rfl, _, rfl, ?_⟩
  rw [neS]
  by_cases h4 : t2 = [40]
  rotate_left
  · -- a name
    rw [if_neg h4] at hat
    refine ifT (nT (decide_eq_false h4)) ⟨_, rfl, _, rfl, hz, _, _, rfl, rfl, _, rfl, ?_⟩
    rw [S_len]
    by_cases h8 : t.length > 8
    · exact ifT (decide_eq_true (by omega)) ⟨_, rfl, x, dx1, _, rfl, hx1, rfl, x, toks, _, d, rfl, rs1, (k2 (by rw [hat, if_pos h8])).mono b1⟩
    · rw [if_neg h8] at hat
      refine ifF (decide_eq_false (by omega)) ⟨_, rfl, x, a.cr, dx1, _, _, rfl, hx1, T.cl, T.nAt, rfs_at l1' n1' m1', _, _, rfl, rfl, dx1, _, hx1, by show 3 < 1000; decide, _, rfl, by show 2 ≤ sizeLine; decide, fun q hq => ?_⟩
      exact k1 _ _ hat _ _ (b1.put.new hq) ((st1 _ rfl (headL_ne h3)).keep (Same.new hq)) ⟨q, rfl, upd_same⟩
  -- a function
  rw [if_pos h4] at hat
  refine ifF (nF (decide_eq_true h4)) ⟨_, rfl, S t, rfl, rfl, _, rfl, ?_⟩
  cases hf : formOf t with
  | none =>
    have hfu : funM (rcd d) t r2 = none := by unfold funM; rw [hf]
    rw [(form_tab).2 hf]
    exact ifT rfl ⟨_, rfl, x, dx1, _, rfl, hx1, rfl, x, toks, _, d, rfl, rs1, (k2 (by rw [hat, hfu])).mono b1⟩
  | some fs =>
  rw [(form_tab).1 fs hf]
  refine ifF rfl ⟨_, rfl, x, a.cr, dx1, _, _, rfl, hx1, T.cl, T.nAt, rfs_at l1' n1' m1', _, _, rfl, rfl, dx1, _, hx1, by show 3 < 1000; decide, ?_⟩
  have rs2 := st1 _ rfl (headL_ne h3)
  have b2 : But x H (upd H1 x (.ins a.cr dx1 (putF "at" (.int ((n1' : Int) + 1)) (rfs l1' n1' m1')))) := b1.put
  generalize upd H1 x (.ins a.cr dx1 (putF "at" (.int ((n1' : Int) + 1)) (rfs l1' n1' m1'))) = H2 at rs2 b2
  obtain ⟨_, _, _, l2, dx2, n2, m2, _, hm2, hx2, _⟩ := id rs2
  refine ⟨_, rfl, x, dx2, _, rfl, hx2, rfl, x, toks, r2, t2, d, rfl, rs2, fun _ d' hd' H3 b3 rs3 => ?_, fun hq => (k2 ?_).mono b2⟩
  rotate_left
  · rcases hq with hq | hq
    · exact (hq h4).elim
    · subst hq
      rw [hat]
      unfold funM
      rw [hf]; rfl
  subst hd'
  have hat : atomM (rcd (d' + 1)) (t :: t2 :: r2) = close (match argsM (Rb.P d') t fs true r2 with | none => none | some (as, r3) => match mk t as with | none => none | some x => some (x, r3)) := by
    rw [hat]
    unfold funM
    rw [hf]; rfl
  have b3 := b2.trans b3
  obtain ⟨_, _, _, l3, dx3, n3, m3, _, _, hx3, _⟩ := id rs3
  have hfl := form_len hf
  refine ⟨_, rfl, _, rfl, S t, _, rfl, rfl, form_tab.1 fs hf, S fs, rfl, fun D2 hD2 => ?_⟩
  have hD2x : D2 ≠ x := fun q => by rw [q, hx3] at hD2; cases hD2
  have hD2H : H D2 = none := b3.free hD2 hD2x
  have hD2t : D2 ≠ toks.1 := rs3.fresh hD2
  refine ⟨fun i m H' => m = fs.length - i ∧ i ≤ fs.length ∧ ∃ (us : List V) (as : List Arg) (tsi : List Tx), H' D2 = some (.lst us) ∧ us.length = i ∧ Paired (ArgAt H') us as ∧ But x H H' ∧ RS a.cr H' x toks tsi d' ∧
      argsM (Rb.P d') t fs true r2 = glue as (argsM (Rb.P d') t (fs.drop i) (decide (i = 0)) tsi) ∧ (i = 0 → tsi = r2),
    ⟨_, rfl, Nat.zero_le _, [], [], r2, upd_same, rfl, .nil, b3.aw hD2H, rs3.keep (Same.new hD2), ?_, fun _ => rfl⟩, ?_⟩
  · show _ = glue [] (argsM (Rb.P d') t fs true r2)
    cases argsM (Rb.P d') t fs true r2 <;> rfl
  rintro i m H4 ⟨rfl, hi, us, as, tsi, hD4, hul, hus, b4, rs4, hga, h0⟩
  obtain ⟨_, _, _, l4, dx4, n4, m4, _, _, hx4, _⟩ := id rs4
  by_cases hlt : i < fs.length
  · obtain ⟨sg, hsg⟩ : ∃ sg, fs[i]? = some sg := ⟨fs[i], List.getElem?_eq_getElem hlt⟩
    obtain ⟨sg1, sg2⟩ := form_sign hf hsg
    refine .inr ⟨by show i < (S fs).cps.size; simpa using hlt, fun H' => ∃ (us : List V) (as : List Arg) (tsi : List Tx), H' D2 = some (.lst us) ∧ us.length = i + 1 ∧ Paired (ArgAt H') us as ∧ But x H H' ∧ RS a.cr H' x toks tsi d' ∧
      argsM (Rb.P d') t fs true r2 = glue as (argsM (Rb.P d') t (fs.drop (i + 1)) (decide (i + 1 = 0)) tsi), fun H' ⟨us, as, tsi, q1, q2, q3, q4, q5, q6⟩ => ⟨_, by omega, rfl, hlt, us, as, tsi, q1, q2, q3, q4, q5, q6, fun z => by omega⟩, ?_⟩
    rintro v H5 ⟨T5, c5, rfl, hT5, rfl, hc5⟩
    have ec : c5 = sg := by
      have q : fs[i]? = some c5 := by simpa using hc5
      rw [hsg] at q
      exact (Option.some.inj q).symm
    subst ec
    have sm5 : Same H4 (upd H4 T5 (.tup [.int (i : Nat), .str ⟨#[c5]⟩])) := Same.new hT5
    refine ⟨T5, _, rfl, SqT.of upd_same, rfl, _, _, rfl, _, _, rfl, rfl, rfl, ?_⟩
    generalize upd H4 T5 (.tup [.int (i : Nat), .str ⟨#[c5]⟩]) = H5 at sm5
    have hx5 := sm5 _ _ hx4
    have hst : argsM (Rb.P d') t (fs.drop i) (decide (i = 0)) tsi = (match arg1 d' t c5 i tsi with | none => none | some (g, ts2) => glue [g] (argsM (Rb.P d') t (fs.drop (i + 1)) false ts2)) := by
      rw [drop_at hsg]; exact args_step
    refine ⟨_, rfl, x, dx4, _, rfl, hx5, rfl, _, rfl, _, rfl, x, toks, tsi, d', c5, i, t, rfl, rs4.keep sm5, hD, sg1, fun z => ⟨sg2 z, pre, ?_⟩, fun g ts2 hg v H6 b6 rs6 hv => ?_, fun hg => (k2 ?_).mono (b4.same sm5)⟩
    · rw [h0 (sg2 z), e1, h4]
    · rw [hg] at hst
      have hst : argsM (Rb.P d') t (fs.drop i) (decide (i = 0)) tsi = glue [g] (argsM (Rb.P d') t (fs.drop (i + 1)) false ts2) := hst
      have hD6 : H6 D2 = some (.lst us) := b6 _ _ hD2x (sm5 _ _ hD4)
      have kt6 : KT H4 (upd H6 D2 (.lst (us ++ [v]))) := (sm5.kt.trans (b6.kt fun xs q => by rw [hx5] at q; cases q)).trans fun b xs q => by
        rw [upd_ne (fun z => by rw [z, hD6] at q; cases q)]; exact q
      refine ⟨us, hD6, szLt (by omega), us ++ [v], as ++ [g], ts2, upd_same, by simp [hul], pa_app (Paired.mapP hus fun _ _ q => q.kt kt6) (.cons (hv.kt fun b xs q => ?_) .nil), ((b4.same sm5).trans b6).aw hD2H, rs6.other hD6 hD2t, ?_⟩
      · rw [upd_ne (fun z => by rw [z, hD6] at q; cases q)]; exact q
      · rw [hga, hst, glue_glue]; rfl
    · have : argsM (Rb.P d') t fs true r2 = none := by
        rw [hga, hst, hg]; rfl
      rw [hat, this]; rfl
  · have hi2 : i = fs.length := by omega
    refine .inl ⟨by show (S fs).cps.size ≤ i; simp; omega, D2, us, rfl, .inr (SqL.of hD4), by simp; exact szL (by omega), fun q hq => ?_⟩
    have hga : argsM (Rb.P d') t fs true r2 = some (as, tsi) := by
      rw [hga, hi2, List.drop_length]
      show some (as ++ [], tsi) = _
      rw [List.append_nil]
    obtain ⟨T7, hT7⟩ := mk_some hf hga
    rw [hga] at hat
    have hat : atomM (rcd (d' + 1)) (t :: t2 :: r2) = close (match mk t as with | none => none | some x => some (x, tsi)) := hat
    rw [hT7] at hat
    have sm7 : Same H4 (upd H4 q (.tup (.str (S t) :: (us ++ [])))) := Same.new hq
    have tr : TreeAt (upd H4 q (.tup (.str (S t) :: (us ++ [])))) (.ref q) T7 := mk_tree (Paired.mapP hus fun _ _ z => z.kt sm7.kt) hT7 (by rw [upd_same, List.append_nil])
    have rs7 := rs4.keep sm7
    have b7 := b4.same sm7
    have hx7 := sm7 _ _ hx4
    generalize upd H4 q (.tup (.str (S t) :: (us ++ []))) = H7 at tr rs7 b7 hx7
    obtain ⟨t8, r8, rfl, _⟩ := rs7.cur
    have hat : atomM (rcd (d' + 1)) (t :: t2 :: r2) = if t8 = [41] then some (T7, r8) else none := hat
    refine ⟨_, rfl, x, dx4, _, rfl, hx7, rfl, x, toks, r8, t8, d', rfl, by omega, rs7, fun h8 H8 b8 rs8 => ?_, fun h8 => (k2 (by rw [hat, if_neg h8])).mono b7⟩
    rw [if_pos h8] at hat
    exact ⟨_, rfl, k1 _ _ hat _ _ (b7.trans b8) rs8 (tr.kt (b8.kt fun xs q => by rw [hx7] at q; cases q))⟩
end Rb
set_option maxRecDepth 100000
set_option maxHeartbeats 4000000
namespace Rb
open PySem PySem.Spec PyProof.Rows L2 SX RbR
open TL (numL)
variable {P : Program} {w : World} {K : PySem.W.Frag} {mg : Str → Option Value} {base : Heap} {a : Ads}
def spSigned (a : Ads) (D : Nat) : Sp := fun vs H Q E => ∃ (x : Addr) (toks : Addr × List Tx) (ts : List Tx) (d : Nat), vs = [.ref x] ∧ RS a.cr H x toks ts d ∧ d ≤ D ∧ Parses a x toks d (signed (rcd d) ts) TreeAt H Q E
theorem pow_end {T : Tm} {t : Tx} {r : List Tx} (h : t ≠ [94]) : powLoop T (t :: r) = some (T, t :: r) := by
  cases r with
  | nil => exact if_neg h
  | cons t2 r => exact if_neg h
theorem pow_step {T : Tm} {t2 : Tx} {r : List Tx} : powLoop T ([94] :: t2 :: r) = match tokNat t2 with
      | none => none
      | some n => powLoop (.pow T n) r := if_pos rfl
theorem nat_of {t2 : Tx} {r : List Tx} : natural (t2 :: r) = match tokNat t2 with
      | none => none
      | some n => some (n, r) := rfl
theorem But.kt' {x : Addr} {H H' : Hp} {C dx : Addr} {fs : List (Str × V)} (b : But x H H') (hx : H x = some (.ins C dx fs)) : KT H H' := b.kt fun xs q => by rw [hx] at q; cases q
namespace D26_10
abbrev ST : Stmt := inCls 26 10
abbrev NS : List Str := ["self", "signs", "found", "step"]
theorem S : FnScope NS ["self"] (defScope ST) := ⟨rfl, rfl, rfl, by decide +kernel, rfl, by decide +kernel, by decide +kernel⟩
end D26_10
open D26_10 in
theorem m_signed (T : Txt w K mg a) (D : Nat) (m_term : Met P w K mg base (L2.CX P w) (6 + 8 * D) a.cr "term" (spRec a D)) : Met P w K mg base (L2.CX P w) (9 + 8 * D + 1) a.cr "signed" (spSigned a D) := by
  have m_token := m_token (P := P) (base := base) T
  have m_natural := m_natural (P := P) (base := base) T
  have m_atom := m_atom T D m_term
  refine metX T.r10 T.cl S (fun vs H Q E h => ?_) (fun _ _ _ _ _ _ us hl => match us, hl with | [_], _ => rfl) (fun f cdv A outer s H vs Q E hr h => ?_)
  · obtain ⟨x, _, _, _, rfl, _⟩ := h; rfl
  obtain ⟨x, toks, ts, d, rfl, rs, hD, k1, k2⟩ := h
  refine ⟨_, (pss_cons (ps_set (i := 1) S.nd rfl (Or.inl rfl) pe_int)
  (C8.pss_cut (ps_while (passes_of rfl) (pt_cmpR op_eq (pe_m0 m_token hr (by omega) L2.pass0 (pv 0)) pe_str (nomark _))
    (pss_cons (ps_aug (i := 1) S.nd rfl (Or.inl rfl) pe_int ip_add)
    (pss_one (ps_fldaug (pv 0) pe_int in_add))))
  (pss_cons (ps_set (i := 2) S.nd rfl (Or.inl rfl) (pe_m0 m_atom hr (by omega) (passes_call (takes_of rfl rfl rfl rfl) (fun _ _ _ _ h => h)) (pv 0)))
  (C8.pss_cut (ps_while (passes_of rfl) (pt_cmpR op_eq (pe_m0 m_token hr (by omega) L2.pass0 (pv 0)) pe_str (nomark _))
    (pss_cons (ps_fldaug (pv 0) pe_int in_add)
    (pss_one (ps_set (i := 2) S.nd rfl (Or.inl rfl) (pe_tup (pa_cons pe_str (pa_cons (pv 2) (pa_cons (pe_m0 m_natural hr (by omega) (passes_call (takes_of rfl rfl rfl rfl) (fun _ _ _ _ h => h)) (pv 0)) pa_nil))))))))
  (pss_cons (ps_for (passes_of rfl) rfl (pi_range1 rfl T.bRng (pa_cons (pv 1) pa_nil)) (pg_name (i := 3) S.nd rfl (Or.inl rfl))
    (pss_one (ps_set (i := 2) S.nd rfl (Or.inl rfl) (pe_tup (pa_cons pe_str (pa_cons (pv 2) pa_nil))))))
  (pss_one (ps_ret (pv 2)))))))), ?_⟩
  obtain ⟨⟨pre, e1⟩, _, ⟨hlen, _⟩, _⟩ := id rs
  have hlts : ts.length ≤ 1000 := by rw [e1, List.length_append] at hlen; omega
  refine ⟨fun σ' H' => ∃ ts2, σ' = [some (.ref x), some (.int ((minuses ts).1 : Nat)), none, none] ∧ minuses ts = ((minuses ts).1, ts2) ∧ (minuses ts).1 ≤ 1000 ∧ But x H H' ∧ RS a.cr H' x toks ts2 d, ?_, ?_⟩
  · refine ⟨fun m σ H' => ∃ (ts' : List Tx) (k : Nat), m = ts'.length ∧ k + ts'.length ≤ 1000 ∧ σ = [some (.ref x), some (.int (k : Nat)), none, none] ∧ But x H H' ∧ RS a.cr H' x toks ts' d ∧ minuses ts = (k + (minuses ts').1, (minuses ts').2), ⟨_, ts, 0, rfl, by omega, rfl, But.refl x H, rs, by rw [Nat.zero_add]⟩, ?_⟩
    rintro m σ H1 ⟨ts', k, rfl, hk, rfl, b1, rs1, hm⟩
    obtain ⟨t, r, rfl, _⟩ := rs1.cur
    obtain ⟨l1, dx1, n1, m1, hx1, hm1, st1⟩ := rs1.step
    refine ⟨_, rfl, x, dx1, _, rfl, hx1, rfl, x, toks, r, t, d, rfl, rs1, rfl, _, rfl, ?_⟩
    rw [show (V.str "-") = V.str (S [45]) from rfl, neS]
    by_cases h : t = [45]
    · refine ifT (decide_eq_true h) ⟨fun σ' H' => ∃ (k2 : Nat), k2 + r.length ≤ 1000 ∧ σ' = [some (.ref x), some (.int (k2 : Nat)), none, none] ∧ But x H H' ∧ RS a.cr H' x toks r d ∧ minuses ts = (k2 + (minuses r).1, (minuses r).2), fun σ' H' ⟨k2, q1, q2⟩ => ⟨_, by show r.length < (t :: r).length; simp, r, k2, rfl, q1, q2⟩, ?_⟩
      refine ⟨_, rfl, _, _, rfl, rfl, _, rfl, x, a.cr, dx1, _, _, rfl, hx1, T.cl, T.nAt, rfs_at l1 n1 m1, _, _, rfl, rfl, dx1, _, hx1, by show 3 < 1000; decide, k + 1, by simp at hk; omega, rfl, b1.put, st1 _ rfl (by rw [h]; decide), ?_⟩
      rw [hm]
      have e : minuses (t :: r) = ((minuses r).1 + 1, (minuses r).2) := if_pos h
      rw [e]
      show (k + ((minuses r).1 + 1), (minuses r).2) = _
      rw [show k + ((minuses r).1 + 1) = k + 1 + (minuses r).1 by omega]
    · have e : minuses (t :: r) = (0, t :: r) := if_neg h
      rw [e] at hm
      refine ifF (decide_eq_false h) ⟨t :: r, ?_, ?_, ?_, b1, rs1⟩
      · rw [hm]; rfl
      · rw [hm]
      · rw [hm]; simp at hk; show k + 0 ≤ 1000; omega
  rintro σ1 H1 ⟨ts2, rfl, hm, hk, b1, rs1⟩
  generalize (minuses ts).1 = k at hm hk
  obtain ⟨_, _, _, l1, dx1, n1, m1, _, _, hx1, _⟩ := id rs1
  have hs : signed (rcd d) ts = match powM (rcd d) ts2 with | none => none | some (p, r) => some (negs k p, r) := by
    unfold signed
    rw [hm] <;> rfl
  have hpw : powM (rcd d) ts2 = match atomM (rcd d) ts2 with | none => none | some (a, r) => powLoop a r := rfl
  refine ⟨_, rfl, x, dx1, _, rfl, hx1, rfl, x, toks, ts2, d, rfl, rs1, hD, fun T1 r2 hq v H2 b2 rs2 hv => ?_, fun hq => (k2 (by rw [hs, hpw, hq])).mono b1⟩
  rw [hq] at hpw
  have hpw : powM (rcd d) ts2 = powLoop T1 r2 := hpw
  obtain ⟨⟨pre2, e2⟩, _, ⟨hlen2, _⟩, _⟩ := id rs2
  have hl2 : r2.length ≤ 1000 := by rw [e2, List.length_append] at hlen2; omega
  refine ⟨fun σ' H' => ∃ T3 ts3 v3, σ' = [some (.ref x), some (.int (k : Nat)), some v3, none] ∧ powM (rcd d) ts2 = some (T3, ts3) ∧ TreeAt H' v3 T3 ∧ But x H H' ∧ RS a.cr H' x toks ts3 d, ?_, ?_⟩
  · refine ⟨fun m σ H' => ∃ (ts' : List Tx) (T' : Tm) (v' : V), m = ts'.length ∧ σ = [some (.ref x), some (.int (k : Nat)), some v', none] ∧ But x H H' ∧ RS a.cr H' x toks ts' d ∧ TreeAt H' v' T' ∧ powM (rcd d) ts2 = powLoop T' ts', ⟨_, r2, T1, v, rfl, rfl, b1.trans b2, rs2, hv, hpw⟩, ?_⟩
    rintro m σ H3 ⟨ts', T', v', rfl, rfl, b3, rs3, hv3, hp⟩
    obtain ⟨t, r, rfl, hne⟩ := rs3.cur
    obtain ⟨l3, dx3, n3, m3, hx3, hm3, st3⟩ := rs3.step
    refine ⟨_, rfl, x, dx3, _, rfl, hx3, rfl, x, toks, r, t, d, rfl, rs3, rfl, _, rfl, ?_⟩
    rw [show (V.str "^") = V.str (S [94]) from rfl, neS]
    by_cases h : t = [94]
    · subst h
      obtain ⟨u, hu⟩ := hne (by decide)
      obtain ⟨t2, r3, rfl⟩ : ∃ t2 r2, r = t2 :: r2 := by
        cases u with
        | nil => exact ⟨_, _, hu⟩
        | cons c u => exact ⟨_, _, hu⟩
      refine ifT (decide_eq_true rfl) ⟨fun σ' H' => ∃ (ts' : List Tx) (T' : Tm) (v' : V), ts'.length < ([94] :: t2 :: r3).length ∧ σ' = [some (.ref x), some (.int (k : Nat)), some v', none] ∧ But x H H' ∧ RS a.cr H' x toks ts' d ∧ TreeAt H' v' T' ∧ powM (rcd d) ts2 = powLoop T' ts', fun σ' H' ⟨ts', T', v', q1, q2⟩ => ⟨_, q1, ts', T', v', rfl, q2⟩, ?_⟩
      refine ⟨_, rfl, x, a.cr, dx3, _, _, rfl, hx3, T.cl, T.nAt, rfs_at l3 n3 m3, _, _, rfl, rfl, dx3, _, hx3, by show 3 < 1000; decide, ?_⟩
      have rs4 := st3 _ rfl (by decide)
      have b4 : But x H3 (upd H3 x (.ins a.cr dx3 (putF "at" (.int ((n3 : Int) + 1)) (rfs l3 n3 m3)))) := (But.refl x H3).put
      generalize upd H3 x (.ins a.cr dx3 (putF "at" (.int ((n3 : Int) + 1)) (rfs l3 n3 m3))) = H4 at rs4 b4
      obtain ⟨_, _, _, l4, dx4, n4, m4, _, _, hx4, _⟩ := id rs4
      have hv4 := hv3.kt (b4.kt' hx3)
      refine ⟨_, rfl, _, rfl, x, dx4, _, rfl, hx4, rfl, x, toks, _, d, rfl, rs4, fun n r5 hn u5 H5 b5 rs5 hu5 => ?_, fun hn => (k2 ?_).mono (b3.trans b4)⟩
      · rw [nat_of] at hn
        cases ht : tokNat t2 with
        | none => rw [ht] at hn; cases hn
        | some n' =>
          rw [ht] at hn
          obtain ⟨rfl, rfl⟩ : n' = n ∧ r3 = r5 := by
            have := Option.some.inj hn
            exact ⟨congrArg Prod.fst this, congrArg Prod.snd this⟩
          have e5 : u5 = .int (n' : Nat) := hu5
          subst e5
          refine ⟨by show 3 ≤ sizeLine; decide, fun q hq => ⟨r3, .pow T' n', .ref q, by simp; omega, rfl, ((b3.trans b4).trans b5).new hq, rs5.keep (Same.new hq), ⟨q, v', rfl, upd_same, ((hv4.kt (b5.kt' hx4)).kt (Same.new hq).kt)⟩, ?_⟩⟩
          rw [hp, pow_step, ht]
      · rw [nat_of] at hn
        have ht : tokNat t2 = none := by
          cases ht : tokNat t2 with
          | none => rfl
          | some n => rw [ht] at hn; cases hn
        rw [hs, hp, pow_step, ht]
    · refine ifF (decide_eq_false h) ⟨T', t :: r, v', rfl, ?_, hv3, b3, rs3⟩
      rw [hp, pow_end h]
  rintro σ3 H3 ⟨T3, ts3, v3, rfl, hp3, hv3, b3, rs3⟩
  rw [hp3] at hs
  have hs : signed (rcd d) ts = some (negs k T3, ts3) := hs
  refine ⟨_, rfl, _, rfl, by omega, by omega, ?_⟩
  refine ⟨fun i m σ H' => ∃ v', m = k - i ∧ i ≤ k ∧ σ.length = 4 ∧ σ[2]? = some (some v') ∧ TreeAt H' v' (negs i T3) ∧ But x H H' ∧ RS a.cr H' x toks ts3 d, ⟨_, v3, rfl, Nat.zero_le _, rfl, rfl, hv3, b3, rs3⟩, ?_⟩
  rintro i m σ H4 ⟨v', rfl, hi, hsl, hs2, hv4, b4, rs4⟩
  obtain ⟨s0, s1, s2, s3, rfl⟩ : ∃ s0 s1 s2 s3, σ = [s0, s1, s2, s3] := by
    match σ, hsl with
    | [s0, s1, s2, s3], _ => exact ⟨_, _, _, _, rfl⟩
  have hs2 : s2 = some v' := Option.some.inj hs2
  subst hs2
  by_cases hlt : i < k
  · refine .inr ⟨by show i < _; omega, fun σ' H' => ∃ v', σ'.length = 4 ∧ σ'[2]? = some (some v') ∧ TreeAt H' v' (negs (i + 1) T3) ∧ But x H H' ∧ RS a.cr H' x toks ts3 d, fun σ' H' ⟨v', q⟩ => ⟨_, by omega, v', rfl, hlt, q⟩, ?_⟩
    rintro y H5 ⟨rfl, rfl⟩
    refine ⟨_, rfl, by show 2 ≤ sizeLine; decide, fun q hq => ⟨.ref q, rfl, rfl, ⟨q, v', rfl, upd_same, hv4.kt (Same.new hq).kt⟩, b4.new hq, rs4.keep (Same.new hq)⟩⟩
  · have hi2 : i = k := by omega
    subst hi2
    exact .inl ⟨by show _ ≤ i; omega, _, rfl, k1 _ _ hs _ _ b4 rs4 hv4⟩
end Rb
set_option maxRecDepth 100000
set_option maxHeartbeats 4000000
namespace Rb
open PySem PySem.Spec PyProof.Rows L2 SX RbR
open TL (numL)
variable {P : Program} {w : World} {K : PySem.W.Frag} {mg : Str → Option Value} {base : Heap} {a : Ads}
def spTerm (a : Ads) (D l : Nat) : Sp := fun vs H Q E => ∃ (x : Addr) (toks : Addr × List Tx) (ts : List Tx) (d : Nat), vs = [.ref x, .int (l : Nat)] ∧ RS a.cr H x toks ts d ∧ d ≤ D ∧ Parses a x toks d (lv (rcd d) (4 - l) ts) TreeAt H Q E
theorem spRec_eq (a : Ads) (D : Nat) : spRec a (D + 1) = spTerm a D 1 := by
  funext vs H Q E
  refine propext ⟨fun ⟨x, toks, ts, d, e, rs, hD, p⟩ => ⟨x, toks, ts, d, e, rs, by omega, ?_⟩, fun ⟨x, toks, ts, d, e, rs, hD, p⟩ => ⟨x, toks, ts, d, e, rs, by omega, ?_⟩⟩
  · rw [P_eq] at p; exact p
  · rw [P_eq]; exact p
def bops : List Bop := [.join, .sum, .diff, .prod, .quot]
theorem bop_key : ∀ (i : Nat) (k : Str), (tPairs.map (·.1))[i]? = some k → ∃ o, bops[i]? = some o ∧ k = bw o
  | 0, k, e => ⟨.join, rfl, (Option.some.inj e).symm⟩
  | 1, k, e => ⟨.sum, rfl, (Option.some.inj e).symm⟩
  | 2, k, e => ⟨.diff, rfl, (Option.some.inj e).symm⟩
  | 3, k, e => ⟨.prod, rfl, (Option.some.inj e).symm⟩
  | 4, k, e => ⟨.quot, rfl, (Option.some.inj e).symm⟩
  | i + 5, k, e => by cases e
theorem bop_lev (o : Bop) : tLevels.lookup (bw o) = some (.int (o.lev : Nat)) := by cases o <;> rfl
theorem bop_sym (o : Bop) : tPairs.lookup (bw o) = some (.str (S [o.sym])) := by cases o <;> rfl
def wds (l : Nat) (t : Tx) (os : List Bop) : List V := (os.filter fun o => decide (o.lev = l) && decide (t = [o.sym])).map fun o => V.str (bw o)
theorem wds_snoc {l : Nat} {t : Tx} {i : Nat} {o : Bop} (h : bops[i]? = some o) : wds l t (bops.take (i + 1)) = if o.lev = l ∧ t = [o.sym] then wds l t (bops.take i) ++ [.str (bw o)] else wds l t (bops.take i) := by
  have e : bops.take (i + 1) = bops.take i ++ [o] := by
    rw [List.take_add_one, h]; rfl
  rw [e]
  unfold wds
  rw [List.filter_append, List.map_append]
  by_cases q : o.lev = l ∧ t = [o.sym]
  · rw [if_pos q]
    have : (decide (o.lev = l) && decide (t = [o.sym])) = true := by rw [decide_eq_true q.1, decide_eq_true q.2]; rfl
    simp only [List.filter, this]
    rfl
  · rw [if_neg q]
    have : (decide (o.lev = l) && decide (t = [o.sym])) = false := by
      by_cases q1 : o.lev = l
      · rw [decide_eq_true q1, decide_eq_false fun q2 => q ⟨q1, q2⟩]; rfl
      · rw [decide_eq_false q1]; rfl
    simp only [List.filter, this]
    exact List.append_nil _
theorem wds_op {l : Nat} {t : Tx} (h1 : 1 ≤ l) (h3 : l ≤ 3) : (opAt l t = none ∧ wds l t bops = []) ∨ ∃ o, opAt l t = some o ∧ wds l t bops = [.str (bw o)] ∧ t ≠ [] := by
  have hl : l = 1 ∨ l = 2 ∨ l = 3 := by omega
  have two : ∀ {c : Nat}, t = [c] → t ≠ [] := fun e q => by rw [e] at q; cases q
  rcases hl with rfl | rfl | rfl
  · by_cases h : t = [124]
    · subst h; exact .inr ⟨.join, by decide, rfl, by decide⟩
    · refine .inl ⟨by show (if (1 : Nat) = 1 then (if t = [124] then some Bop.join else none) else _) = none; rw [if_pos rfl, if_neg h], ?_⟩
      simp [wds, bops, Bop.lev, Bop.sym, h]
  · by_cases h : t = [43]
    · subst h; exact .inr ⟨.sum, by decide, rfl, by decide⟩
    · by_cases h2 : t = [45]
      · subst h2; exact .inr ⟨.diff, by decide, rfl, by decide⟩
      · refine .inl ⟨?_, ?_⟩
        · unfold opAt
          rw [if_neg (by decide), if_pos rfl, if_neg h, if_neg h2]
        · simp [wds, bops, Bop.lev, Bop.sym, h, h2]
  · by_cases h : t = [42]
    · subst h; exact .inr ⟨.prod, by decide, rfl, by decide⟩
    · by_cases h2 : t = [47]
      · subst h2; exact .inr ⟨.quot, by decide, rfl, by decide⟩
      · refine .inl ⟨?_, ?_⟩
        · unfold opAt
          rw [if_neg (by decide), if_neg (by decide), if_pos rfl, if_neg h, if_neg h2]
        · simp [wds, bops, Bop.lev, Bop.sym, h, h2]
namespace D26_9
abbrev ST : Stmt := inCls 26 9
abbrev NS : List Str := ["self", "level", "here", "words", "word"]
theorem S : FnScope NS ["self", "level"] (defScope ST) := ⟨rfl, rfl, rfl, by decide +kernel, rfl, by decide +kernel, by decide +kernel⟩
end D26_9
theorem bil_end {l : Nat} {sub : List Tx → Res Tm} {T : Tm} {t : Tx} {r : List Tx} (h : opAt l t = none) : binLoop l sub T (t :: r) = some (T, t :: r) := by
  rw [binLoop, h]
theorem bil_none {l : Nat} {sub : List Tx → Res Tm} {T : Tm} {t : Tx} {r : List Tx} {o : Bop} (h : opAt l t = some o) (h2 : sub r = none) : binLoop l sub T (t :: r) = none := by
  rw [binLoop, h]
  simp only [h2]
theorem bil_step {l : Nat} {sub : List Tx → Res Tm} {T b : Tm} {t : Tx} {r r2 : List Tx} {o : Bop} (h : opAt l t = some o) (h2 : sub r = some (b, r2)) (h3 : r2.length < (t :: r).length) : binLoop l sub T (t :: r) = binLoop l sub (.bin o T b) r2 := by
  rw [binLoop, h]
  simp only [h2]
  rw [dif_pos h3]
open D26_9 in
theorem m_no (T : Txt w K mg a) (k : Nat) : Met P w K mg base (L2.CX P w) (k + 1) a.cr "term" (fun _ _ _ _ => False) :=
  metX T.r9 T.cl S (fun vs H Q E h => h.elim) (fun _ _ _ _ _ _ us hl => match us, hl with | [_, _], _ => rfl) (fun f cdv A outer s H vs Q E hr h => h.elim)
open D26_9 in
theorem m_term4 (T : Txt w K mg a) (D : Nat) (m_rec : Met P w K mg base (L2.CX P w) (6 + 8 * D) a.cr "term" (spRec a D)) : Met P w K mg base (L2.CX P w) (10 + 8 * D + 1) a.cr "term" (spTerm a D 4) := by
  have m_token := m_token (P := P) (base := base) T
  have m_signed := m_signed T D m_rec
  have m_term := m_no (P := P) (base := base) T 0
  refine metX T.r9 T.cl S (fun vs H Q E h => ?_) (fun _ _ _ _ _ _ us hl => match us, hl with | [_, _], _ => rfl) (fun f cdv A outer s H vs Q E hr h => ?_)
  · obtain ⟨x, _, _, _, rfl, _⟩ := h; rfl
  obtain ⟨x, toks, ts, d, rfl, rs, hD, k1, k2⟩ := h
  refine ⟨_, (pss_cons (ps_if (pt_cmpR op_eq (pv 1) pe_int (nomark _))
    (pss_one (ps_ret (pe_m0 m_signed hr (by omega) (passes_call (takes_of rfl rfl rfl rfl) (fun _ _ _ _ h => h)) (pv 0))))
    pss_nil)
  (pss_cons (ps_set (i := 2) S.nd rfl (Or.inl rfl) (pe_m m_term hr (by omega) (passes_call (takes_of rfl rfl rfl rfl) (fun _ _ _ _ h => h)) (pv 0) (pa_cons (pe_op op_add (pv 1) pe_int) pa_nil)))
  (pss_one (ps_while (passes_of rfl) (pt_val pe_bl)
    (pss_cons (ps_setLc (i := 3) (own := [("word", 4)]) (g := (gName 4)) (tt := _) rfl S.nd rfl rfl (sw_true rfl rfl rfl (by decide +kernel)) (pi_wkeys (C8.pe_gc rfl T.gPr)) (blkOk_by (N := NS) (sc := defScope ST) (by decide +kernel)) (fun _ _ _ _ _ => pg_name (i := 4) S.nd rfl (Or.inl rfl)) (fun _ _ _ _ _ => pts_one (PW.pt (pw_and (pt_cmpR op_eq (pe_ix (ix_tab T.dLv) (C8.pe_gc rfl T.gLv) (pv 4) (fun _ _ => rfl)) (pv 1) (nomark _)) (pw_and1 (pt_cmpR op_eq (pe_ix (ix_tab T.dPr) (C8.pe_gc rfl T.gPr) (pv 4) (fun _ _ => rfl)) (pe_m0 m_token hr (by omega) L2.pass0 (pv 0)) (nomark _)))))) (fun _ _ _ _ _ => (pv 4)))
    (pss_cons (ps_if (pt_cmpR (op_eqL0 hr.units0) (pv 3) (pe_lst pa_nil) (nomark _))
      (pss_one (ps_ret (pv 2)))
      pss_nil)
    (pss_cons (ps_fldaug (pv 0) pe_int in_add)
    (pss_one (ps_set (i := 2) S.nd rfl (Or.inl rfl) (pe_tup (pa_cons (pe_ix ix_list (pv 3) pe_int (fun _ _ => rfl)) (pa_cons (pv 2) (pa_cons (pe_m m_term hr (by omega) (passes_call (takes_of rfl rfl rfl rfl) (fun _ _ _ _ h => h)) (pv 0) (pa_cons (pe_op op_add (pv 1) pe_int) pa_nil)) pa_nil))))))))))))), ?_⟩
  obtain ⟨_, _, _, l1, dx1, n1, m1, _, _, hx1, _⟩ := id rs
  exact ⟨_, rfl, rfl, _, rfl, ifT (decide_eq_true rfl) ⟨_, rfl, x, dx1, _, rfl, hx1, rfl, x, toks, ts, d, rfl, rs, hD, k1, k2⟩⟩
open D26_9 in
theorem m_termL (T : Txt w K mg a) (D l k : Nat) (hl1 : 1 ≤ l) (hl3 : l ≤ 3) (hk : 10 + 8 * D ≤ k) (m_rec : Met P w K mg base (L2.CX P w) (6 + 8 * D) a.cr "term" (spRec a D)) (m_term : Met P w K mg base (L2.CX P w) k a.cr "term" (spTerm a D (l + 1))) : Met P w K mg base (L2.CX P w) (k + 1) a.cr "term" (spTerm a D l) := by
  have m_token := m_token (P := P) (base := base) T
  have m_signed := m_signed T D m_rec
  refine metX T.r9 T.cl S (fun vs H Q E h => ?_) (fun _ _ _ _ _ _ us hl => match us, hl with | [_, _], _ => rfl) (fun f cdv A outer s H vs Q E hr h => ?_)
  · obtain ⟨x, _, _, _, rfl, _⟩ := h; rfl
  obtain ⟨x, toks, ts, d, rfl, rs, hD, k1, k2⟩ := h
  refine ⟨_, (pss_cons (ps_if (pt_cmpR op_eq (pv 1) pe_int (nomark _))
    (pss_one (ps_ret (pe_m0 m_signed hr (by omega) (passes_call (takes_of rfl rfl rfl rfl) (fun _ _ _ _ h => h)) (pv 0))))
    pss_nil)
  (pss_cons (ps_set (i := 2) S.nd rfl (Or.inl rfl) (pe_m m_term hr (by omega) (passes_call (takes_of rfl rfl rfl rfl) (fun _ _ _ _ h => h)) (pv 0) (pa_cons (pe_op op_add (pv 1) pe_int) pa_nil)))
  (pss_one (ps_while (passes_of rfl) (pt_val pe_bl)
    (pss_cons (ps_setLc (i := 3) (own := [("word", 4)]) (g := (gName 4)) (tt := _) rfl S.nd rfl rfl (sw_true rfl rfl rfl (by decide +kernel)) (pi_wkeys (C8.pe_gc rfl T.gPr)) (blkOk_by (N := NS) (sc := defScope ST) (by decide +kernel)) (fun _ _ _ _ _ => pg_name (i := 4) S.nd rfl (Or.inl rfl)) (fun _ _ _ _ _ => pts_one (PW.pt (pw_and (pt_cmpR op_eq (pe_ix (ix_tab T.dLv) (C8.pe_gc rfl T.gLv) (pv 4) (fun _ _ => rfl)) (pv 1) (nomark _)) (pw_and1 (pt_cmpR op_eq (pe_ix (ix_tab T.dPr) (C8.pe_gc rfl T.gPr) (pv 4) (fun _ _ => rfl)) (pe_m0 m_token hr (by omega) L2.pass0 (pv 0)) (nomark _)))))) (fun _ _ _ _ _ => (pv 4)))
    (pss_cons (ps_if (pt_cmpR (op_eqL0 hr.units0) (pv 3) (pe_lst pa_nil) (nomark _))
      (pss_one (ps_ret (pv 2)))
      pss_nil)
    (pss_cons (ps_fldaug (pv 0) pe_int in_add)
    (pss_one (ps_set (i := 2) S.nd rfl (Or.inl rfl) (pe_tup (pa_cons (pe_ix ix_list (pv 3) pe_int (fun _ _ => rfl)) (pa_cons (pv 2) (pa_cons (pe_m m_term hr (by omega) (passes_call (takes_of rfl rfl rfl rfl) (fun _ _ _ _ h => h)) (pv 0) (pa_cons (pe_op op_add (pv 1) pe_int) pa_nil)) pa_nil))))))))))))), ?_⟩
  obtain ⟨_, _, _, l1, dx1, n1, m1, _, _, hx1, _⟩ := id rs
  refine ⟨_, rfl, rfl, _, rfl, ifF (decide_eq_false fun q => by have := V.int.inj q; omega) ?_⟩
  have elv : lv (rcd d) (4 - l) ts = match lv (rcd d) (3 - l) ts with | none => none | some (T1, r) => binLoop l (lv (rcd d) (3 - l)) T1 r := by
    rw [show 4 - l = (3 - l) + 1 by omega]
    show (match lv (rcd d) (3 - l) ts with | none => none | some (T1, r) => binLoop (3 - (3 - l)) (lv (rcd d) (3 - l)) T1 r) = _
    rw [show 3 - (3 - l) = l by omega]
  refine ⟨_, rfl, x, dx1, _, rfl, hx1, rfl, _, rfl, _, _, rfl, rfl, x, toks, ts, d, rfl, rs, hD, fun T1 r1 h1 v H2 b2 rs2 hv => ?_, fun h1 => k2 (by rw [elv]; rw [show 4 - (l + 1) = 3 - l by omega] at h1; rw [h1])⟩
  rw [show 4 - (l + 1) = 3 - l by omega] at h1
  rw [h1] at elv
  have elv : lv (rcd d) (4 - l) ts = binLoop l (lv (rcd d) (3 - l)) T1 r1 := elv
  refine ⟨fun m σ H' => ∃ (ts' : List Tx) (T' : Tm) (v' : V) (s3 : Option V), m = ts'.length ∧ σ = [some (.ref x), some (.int (l : Nat)), some v', s3, none] ∧ But x H H' ∧ RS a.cr H' x toks ts' d ∧ TreeAt H' v' T' ∧ lv (rcd d) (4 - l) ts = binLoop l (lv (rcd d) (3 - l)) T' ts', ⟨_, r1, T1, v, none, rfl, rfl, b2, rs2, hv, elv⟩, ?_⟩
  rintro m σ H3 ⟨ts', T', v', s3, rfl, rfl, b3, rs3, hv3, hpL⟩
  obtain ⟨t, r, rfl, hne⟩ := rs3.cur
  refine ⟨true, rfl, ifT rfl ⟨fun σ' H' => ∃ (ts' : List Tx) (T' : Tm) (v' : V) (s3 : Option V), ts'.length < (t :: r).length ∧ σ' = [some (.ref x), some (.int (l : Nat)), some v', s3, none] ∧ But x H H' ∧ RS a.cr H' x toks ts' d ∧ TreeAt H' v' T' ∧ lv (rcd d) (4 - l) ts = binLoop l (lv (rcd d) (3 - l)) T' ts', fun σ' H' ⟨ts', T', v', s3, q1, q2⟩ => ⟨_, q1, ts', T', v', s3, rfl, q2⟩, ?_⟩⟩
  refine ⟨a.dp, tPairs.map (fun p : Str × V => p.1), rfl, T.dPr.keys, fun D2 hD2 => ?_⟩
  obtain ⟨_, _, _, l3, dx3, n3, m3, _, _, hx3, _⟩ := id rs3
  have hD2x : D2 ≠ x := fun q => by rw [q, hx3] at hD2; cases hD2
  have hD2t : D2 ≠ toks.1 := rs3.fresh hD2
  refine ⟨fun i m H' => m = 5 - i ∧ i ≤ 5 ∧ H' = upd H3 D2 (.lst (wds l t (bops.take i))), ⟨_, rfl, by omega, rfl⟩, ?_⟩
  rintro i m H4 ⟨rfl, hi, rfl⟩
  by_cases hlt : i < 5
  · refine .inr ⟨hlt, fun H' => H' = upd H3 D2 (.lst (wds l t (bops.take (i + 1)))), fun H' q => ⟨_, by omega, rfl, hlt, q⟩, ?_⟩
    rintro y H5 ⟨rfl, ky, hky, rfl⟩
    obtain ⟨o, ho, rfl⟩ := bop_key i ky hky
    have hx4 : (upd H3 D2 (.lst (wds l t (bops.take i)))) x = some (.ins a.cr dx3 (rfs l3 n3 m3)) := by rw [upd_ne (Ne.symm hD2x)]; exact hx3
    have rs4 : RS a.cr (upd H3 D2 (.lst (wds l t (bops.take i)))) x toks (t :: r) d := by
      have q := (rs3.keep (Same.new (o := .lst []) hD2)).other (ys := wds l t (bops.take i)) upd_same hD2t
      rwa [upd_upd] at q
    refine ⟨rfl, _, rfl, bw o, _, rfl, rfl, bop_lev o, _, rfl, rfl, _, rfl, ?_⟩
    have fin : ∀ c : Bool, (c = true ↔ (o.lev = l ∧ t = [o.sym])) → (if c = true then
        tVar 4 [some (.ref x), some (.int (l : Nat)), some v', s3, some (.str (bw o))] (upd H3 D2 (.lst (wds l t (bops.take i)))) (fun y H4 => ∃ acc, H4 D2 = some (.lst acc) ∧ acc.length < sizeLine ∧ upd H4 D2 (.lst (acc ++ [y])) = upd H3 D2 (.lst (wds l t (bops.take (i + 1)))))
        else upd H3 D2 (.lst (wds l t (bops.take i))) = upd H3 D2 (.lst (wds l t (bops.take (i + 1))))) := fun c hc => by
      rw [wds_snoc ho]
      cases c with
      | true =>
        rw [if_pos rfl, if_pos (hc.mp rfl)]
        refine ⟨_, rfl, _, upd_same, ?_, by rw [upd_upd]⟩
        have h5 : (wds l t (bops.take i)).length ≤ 5 := by
          unfold wds
          rw [List.length_map]
          exact Nat.le_trans (List.length_filter_le _ _) (by rw [List.length_take]; exact Nat.min_le_right _ _)
        exact szLt (by omega)
      | false => rw [if_neg (by decide), if_neg fun q => by have := hc.mpr q; cases this]
    by_cases ho1 : o.lev = l
    · refine ifT (decide_eq_true (by rw [ho1])) ⟨_, rfl, bw o, _, rfl, rfl, bop_sym o, _, rfl, x, dx3, _, rfl, hx4, rfl, x, toks, r, t, d, rfl, rs4, rfl, _, rfl, ?_⟩
      refine fin _ ⟨fun q => ⟨ho1, ?_⟩, fun q => ?_⟩
      · have q : decide (V.str (S [o.sym]) = V.str (S t)) = true := q
        rw [neS] at q
        exact (of_decide_eq_true q).symm
      · show decide (V.str (S [o.sym]) = V.str (S t)) = true
        rw [neS, q.2]
        exact decide_eq_true rfl
    · exact ifF (decide_eq_false fun q => ho1 (by have := V.int.inj q; omega)) (fin false ⟨fun q => (by cases q), fun q => (ho1 q.1).elim⟩)
  · have hi5 : i = 5 := by omega
    subst hi5
    refine .inl ⟨by show 5 ≤ 5; omega, ?_⟩
    rw [show bops.take 5 = bops from rfl]
    have rs4 : RS a.cr (upd H3 D2 (.lst (wds l t bops))) x toks (t :: r) d := by
      have q := (rs3.keep (Same.new (o := .lst []) hD2)).other (ys := wds l t bops) upd_same hD2t
      rwa [upd_upd] at q
    have b4 : But x H3 (upd H3 D2 (.lst (wds l t bops))) := (But.refl x H3).new hD2
    have hD4 : (upd H3 D2 (.lst (wds l t bops))) D2 = some (.lst (wds l t bops)) := upd_same
    generalize upd H3 D2 (.lst (wds l t bops)) = H4 at rs4 b4 hD4
    refine ⟨_, rfl, by decide, fun p hp => ⟨D2, p, _, rfl, rfl, by rw [upd_ne (ne_of_none hD4 hp)]; exact hD4, upd_same, _, rfl, ?_⟩⟩
    have rs5 := rs4.keep (Same.new (o := .lst []) hp)
    have b5 : But x H3 (upd H4 p (.lst [])) := b4.new hp
    have hD5 : (upd H4 p (.lst [])) D2 = some (.lst (wds l t bops)) := by rw [upd_ne (ne_of_none hD4 hp)]; exact hD4
    generalize upd H4 p (.lst []) = H5 at rs5 b5 hD5
    have hv5 := hv3.kt (b5.kt' hx3)
    rcases wds_op (t := t) hl1 hl3 with ⟨ho, hw⟩ | ⟨o, ho, hw, htn⟩
    · rw [hw]
      refine ifT rfl ⟨_, rfl, k1 T' _ (by rw [hpL, bil_end ho]) _ _ (b3.trans b5) rs5 hv5⟩
    · rw [hw] at hD5
      rw [hw]
      obtain ⟨l5, dx5, n5, m5, hx5, hm5, st5⟩ := rs5.step
      refine ifF rfl ⟨_, rfl, x, a.cr, dx5, _, _, rfl, hx5, T.cl, T.nAt, rfs_at l5 n5 m5, _, _, rfl, rfl, dx5, _, hx5, by show 3 < 1000; decide, ?_⟩
      have rs6 := st5 _ rfl htn
      have b6 : But x H5 (upd H5 x (.ins a.cr dx5 (putF "at" (.int ((n5 : Int) + 1)) (rfs l5 n5 m5)))) := (But.refl x H5).put
      generalize upd H5 x (.ins a.cr dx5 (putF "at" (.int ((n5 : Int) + 1)) (rfs l5 n5 m5))) = H6 at rs6 b6
      obtain ⟨_, _, _, l6, dx6, n6, m6, _, _, hx6, _⟩ := id rs6
      have hv6 := hv5.kt (b6.kt' hx5)
      have hD6 := b6 _ _ hD2x hD5
      have b7 := (b3.trans b5).trans b6
      refine ⟨_, rfl, D2, _, _, _, rfl, rfl, SqL.of hD6, at_of (j := 0) rfl rfl, _, rfl, _, rfl, x, dx6, _, rfl, hx6, rfl, _, rfl, _, _, rfl, rfl, x, toks, r, d, rfl, rs6, hD, fun T8 r8 h8 v8 H8 b8 rs8 hv8 => ?_, fun h8 => (k2 ?_).mono b7⟩
      · rw [show 4 - (l + 1) = 3 - l by omega] at h8
        have hlen := (lv_eats (rcd_eats d) _ _ _ _ h8).len
        refine ⟨by show 3 ≤ sizeLine; decide, fun q hq => ⟨r8, .bin o T' T8, .ref q, some (.ref D2), by simp; omega, rfl, (b7.trans b8).new hq, rs8.keep (Same.new hq), ⟨q, v', v8, rfl, upd_same, (hv6.kt (b8.kt' hx6)).kt (Same.new hq).kt, hv8.kt (Same.new hq).kt⟩, ?_⟩⟩
        rw [hpL]
        exact bil_step ho h8 (by simp; omega)
      · rw [show 4 - (l + 1) = 3 - l by omega] at h8
        rw [hpL]
        exact bil_none ho h8
theorem m_rec (T : Txt w K mg a) : ∀ D, Met P w K mg base (L2.CX P w) (6 + 8 * D) a.cr "term" (spRec a D)
  | 0 => by
    have e : spRec a 0 = fun _ _ _ _ => False := by
      funext vs H Q E
      exact propext ⟨fun ⟨_, _, _, _, _, _, h, _⟩ => by omega, fun h => h.elim⟩
    rw [e]
    exact m_no T 5
  | D + 1 => by
    have r := m_rec T D
    have m4 := m_term4 T D r
    have m3 := m_termL T D 3 _ (by decide) (by decide) (by omega) r m4
    have m2 := m_termL T D 2 _ (by decide) (by decide) (by omega) r m3
    have m1 := m_termL T D 1 _ (by decide) (by decide) (by omega) r m2
    rw [spRec_eq, show 6 + 8 * (D + 1) = 10 + 8 * D + 1 + 1 + 1 + 1 by omega]
    exact m1
theorem m_term1 (T : Txt w K mg a) : Met P w K mg base (L2.CX P w) 174 a.cr "term" (spTerm a 20 1) := by
  have h := m_rec (P := P) (base := base) T 21
  rw [spRec_eq] at h
  exact h
end Rb
set_option maxRecDepth 100000
set_option maxHeartbeats 4000000
namespace Rb
open PySem PySem.Spec PyProof.Rows L2 SX RbR
open TL (numL)
variable {P : Program} {w : World} {K : PySem.W.Frag} {mg : Str → Option Value} {base : Heap} {a : Ads}
/-! ### the shape of a tree's tuple -/
def word : Tm → Str
  | .name _ => "name" | .list _ => "list" | .roots _ => "roots" | .unity _ => "unity" | .bin o _ _ => bw o | .neg _ => "negative" | .pow _ _ => "power"
  | .map _ _ => "map" | .sums _ _ => "sums" | .prods _ _ => "products" | .dist _ => "distinct" | .comm _ _ => "common" | .wout _ _ => "without"
def leaf : Tm → Bool
  | .name _ => true | .list _ => true | .roots _ => true | .unity _ => true | _ => false
def args : Tm → List Arg
  | .roots p => [.poly p] | .unity n => [.num n] | .bin _ x y => [.sub x, .sub y] | .neg x => [.sub x] | .pow x n => [.sub x, .num n]
  | .map p x => [.poly p, .sub x] | .sums x n => [.sub x, .num n] | .prods x n => [.sub x, .num n] | .dist x => [.sub x] | .comm x y => [.sub x, .sub y] | .wout x y => [.sub x, .sub y] | _ => []
theorem tree_shape {H : Hp} {v : V} : ∀ {T : Tm}, TreeAt H v T → ∃ (b : Addr) (us : List V), v = .ref b ∧ H b = some (.tup (.str (word T) :: us)) ∧ us.length ≤ 2
  | .name _, ⟨a, e, h⟩ => ⟨a, _, e, h, by simp⟩
  | .list _, ⟨a, b, e, h, n⟩ => ⟨a, _, e, h, by simp⟩
  | .roots _, ⟨a, b, e, h, n⟩ => ⟨a, _, e, h, by simp⟩
  | .unity _, ⟨a, e, h⟩ => ⟨a, _, e, h, by simp⟩
  | .bin _ _ _, ⟨a, b, c, e, h, x, y⟩ => ⟨a, _, e, h, by simp⟩
  | .neg _, ⟨a, b, e, h, x⟩ => ⟨a, _, e, h, by simp⟩
  | .pow _ _, ⟨a, b, e, h, x⟩ => ⟨a, _, e, h, by simp⟩
  | .map _ _, ⟨a, b, c, e, h, n, x⟩ => ⟨a, _, e, h, by simp⟩
  | .sums _ _, ⟨a, b, e, h, x⟩ => ⟨a, _, e, h, by simp⟩
  | .prods _ _, ⟨a, b, e, h, x⟩ => ⟨a, _, e, h, by simp⟩
  | .dist _, ⟨a, b, e, h, x⟩ => ⟨a, _, e, h, by simp⟩
  | .comm _ _, ⟨a, b, c, e, h, x, y⟩ => ⟨a, _, e, h, by simp⟩
  | .wout _ _, ⟨a, b, c, e, h, x, y⟩ => ⟨a, _, e, h, by simp⟩
theorem tree_args {H : Hp} {v : V} : ∀ {T : Tm} {b : Addr} {us : List V}, TreeAt H v T → v = .ref b → H b = some (.tup (.str (word T) :: us)) → ((∀ s, T ≠ .name s) ∧ (∀ q, T ≠ .list q)) → Paired (ArgAt H) us (args T)
  | .name _, _, _, _, _, _, l => (l.1 _ rfl).elim
  | .list _, _, _, _, _, _, l => (l.2 _ rfl).elim
  | .roots _, _, _, ⟨a, b, e, h, n⟩, e2, h2, _ => by subst e; cases e2; rw [h] at h2; cases h2; exact .cons n .nil
  | .unity _, _, _, ⟨a, e, h⟩, e2, h2, _ => by subst e; cases e2; rw [h] at h2; cases h2; exact .cons rfl .nil
  | .bin o _ _, _, _, ⟨a, b, c, e, h, x, y⟩, e2, h2, _ => by subst e; cases e2; rw [h] at h2; cases h2; exact .cons x (.cons y .nil)
  | .neg _, _, _, ⟨a, b, e, h, x⟩, e2, h2, _ => by subst e; cases e2; rw [h] at h2; cases h2; exact .cons x .nil
  | .pow _ _, _, _, ⟨a, b, e, h, x⟩, e2, h2, _ => by subst e; cases e2; rw [h] at h2; cases h2; exact .cons x (.cons rfl .nil)
  | .map _ _, _, _, ⟨a, b, c, e, h, n, x⟩, e2, h2, _ => by subst e; cases e2; rw [h] at h2; cases h2; exact .cons n (.cons x .nil)
  | .sums _ _, _, _, ⟨a, b, e, h, x⟩, e2, h2, _ => by subst e; cases e2; rw [h] at h2; cases h2; exact .cons x (.cons rfl .nil)
  | .prods _ _, _, _, ⟨a, b, e, h, x⟩, e2, h2, _ => by subst e; cases e2; rw [h] at h2; cases h2; exact .cons x (.cons rfl .nil)
  | .dist _, _, _, ⟨a, b, e, h, x⟩, e2, h2, _ => by subst e; cases e2; rw [h] at h2; cases h2; exact .cons x .nil
  | .comm _ _, _, _, ⟨a, b, c, e, h, x, y⟩, e2, h2, _ => by subst e; cases e2; rw [h] at h2; cases h2; exact .cons x (.cons y .nil)
  | .wout _ _, _, _, ⟨a, b, c, e, h, x, y⟩, e2, h2, _ => by subst e; cases e2; rw [h] at h2; cases h2; exact .cons x (.cons y .nil)
def asub : List Arg → List Tm
  | [] => []
  | .sub t :: as => t :: asub as
  | _ :: as => asub as
def subs (T : Tm) : List Tm := if leaf T = true then [] else asub (args T)
theorem asub_snoc : ∀ (as : List Arg) (g : Arg), asub (as ++ [g]) = asub as ++ asub [g]
  | [], g => rfl
  | .sub t :: as, g => by show t :: asub (as ++ [g]) = t :: (asub as ++ _); rw [asub_snoc as g]
  | .num _ :: as, g => asub_snoc as g
  | .poly _ :: as, g => asub_snoc as g
theorem nodes_subs (T : Tm) : nodes T = 1 + ((subs T).map nodes).sum := by
  cases T <;> simp [nodes, subs, leaf, args, asub]
theorem word_leaf (T : Tm) : inV (.str (word T)) [.str "list", .str "roots", .str "unity", .str "name"] = leaf T := by
  cases T with
  | bin o _ _ => cases o <;> rfl
  | _ => rfl
def spParts : Sp := fun vs H Q _ => ∃ (u : V) (T : Tm), vs = [u] ∧ TreeAt H u T ∧ ∀ H' l us, Same H H' → H l = none → H' l = some (.lst us) → Paired (TreeAt H') us (subs T) → us.length ≤ 2 → Q (.ref l) H'
namespace D28
abbrev ST : Stmt := top 28
abbrev NS : List Str := ["tree", "word", "rest", "part"]
theorem S : FnScope NS ["tree"] (defScope ST) := ⟨rfl, rfl, rfl, by decide +kernel, rfl, by decide +kernel, by decide +kernel⟩
end D28
open D28 in
theorem c_parts_of (T : Txt w K mg a) : Cal P w K mg base L2.CX0 1 "parts_of" spParts := by
  refine cal0 T.d28 S (fun vs H Q E h => ?_) (fun _ _ _ _ _ _ us hl => match us, hl with | [_], _ => rfl) (fun f cdv A outer s H vs Q E hr h => ?_)
  · obtain ⟨x, _, rfl, _⟩ := h; rfl
  obtain ⟨u, T1, rfl, ht, k⟩ := h
  refine ⟨_, (pss_cons (ps_asg (pv 0) (pg_star (k2 := 0) rfl (pg_name (i := 1) S.nd rfl (Or.inl rfl)) (pg_name (i := 2) S.nd rfl (Or.inl rfl))))
  (pss_cons (ps_if (pt_cmpR op_in_seq (pv 1) (pe_tup (pa_cons pe_str (pa_cons pe_str (pa_cons pe_str (pa_cons pe_str pa_nil))))) rfl)
    (pss_one (ps_ret (pe_lst pa_nil)))
    pss_nil)
  (pss_one (ps_ret (pe_lc (own := [("part", 3)]) (g := (gName 3))
    (tt := tAnd (tB (tCB (rIsi K) (tCons (tVar 3) (tCons (tC (.ty "tuple")) tNil)))) (tAnd (tTest (tOp (rEqT0 K true) (tVar 3) (tTup tNil))) (tB (tCB (rIsi K) (tCons (tOp (rIxT K) (tVar 3) (tC (.int 0))) (tCons (tC (.ty "str")) tNil)))))) rfl S.nd (pi_list (pv 2)) (blkOk_by (N := NS) (sc := defScope ST) (by decide +kernel)) (fun _ _ _ _ _ => pg_name (i := 3) S.nd rfl (Or.inl rfl)) (fun _ _ _ _ _ => pts_one (PW.pt (pw_and (pt_val (pe_callB call_isi rfl T.bIsi (by decide +kernel) (pa_cons (pv 3) (pa_cons (pe_bltn (v := .ty "tuple") (u := .type "tuple") rfl T.bTup (by decide +kernel) rfl) pa_nil)))) (pw_and (pt_cmpR (op_neT0 hr.units0) (pv 3) (pe_tup pa_nil) (nomark _)) (pw_and1 (pt_val (pe_callB call_isi rfl T.bIsi (by decide +kernel) (pa_cons (pe_ix ix_tup (pv 3) pe_int (fun _ _ => rfl)) (pa_cons (pe_bltn (v := .ty "str") (u := .type "str") rfl T.bStr (by decide +kernel) rfl) pa_nil))))))))) (fun _ _ _ _ _ => (pv 3))))))), ?_⟩
  obtain ⟨b, us, rfl, hb, hus⟩ := tree_shape ht
  refine ⟨_, rfl, b, _, _, rfl, SqT.of hb, by omega, fun r hr0 => ?_⟩
  have sm1 : Same H (upd H r (.lst us)) := Same.new hr0
  refine ⟨_, rfl, by decide, fun p hp => ⟨p, _, rfl, .inr (SqT.of upd_same), ?_, ?_, _, rfl, ?_⟩⟩
  · rfl
  · rfl
  rw [word_leaf]
  have sm2 : Same H (upd (upd H r (.lst us)) p (.tup [.str "list", .str "roots", .str "unity", .str "name"])) := sm1.trans (Same.new hp)
  have hr2 : (upd (upd H r (.lst us)) p (.tup [.str "list", .str "roots", .str "unity", .str "name"])) r = some (.lst us) := (Same.new hp) _ _ upd_same
  generalize upd (upd H r (.lst us)) p (.tup [.str "list", .str "roots", .str "unity", .str "name"]) = H2 at sm2 hr2
  cases hl : leaf T1 with
  | true =>
    refine ifT rfl ⟨by decide, fun q hq => k _ q [] (sm2.trans (Same.new hq)) ?_ upd_same ?_ (by simp)⟩
    · cases z : H q with
      | none => rfl
      | some o => rw [sm2 _ _ z] at hq; cases hq
    · unfold subs
      rw [if_pos hl]
      exact .nil
  | false =>
    have ha := tree_args ht rfl hb ⟨fun s e => (by subst e; cases hl), fun q e => (by subst e; cases hl)⟩
    have hlen := Paired.length ha
    refine ifF rfl ⟨_, rfl, r, rfl, ⟨us, SqL.of hr2⟩, fun D hD => lc_list (K := K) (a := r) (xs := us) (fun i H' => ∃ acc, H' D = some (.lst acc) ∧ Paired (TreeAt H') acc (asub ((args T1).take i)) ∧ acc.length ≤ i ∧ Same H H' ∧ H' r = some (.lst us))
      ⟨[], upd_same, .nil, Nat.le_refl _, sm2.trans (Same.new hD), (Same.new hD) _ _ hr2⟩ (fun i H' _ ⟨_, _, _, _, _, q⟩ => SqL.of q) ?_ ?_⟩
    · rintro i x H' hi ⟨acc, hacc, hpa, hal, sm, hr'⟩
      have hil : i < us.length := by
        obtain ⟨z, _⟩ := List.getElem?_eq_some_iff.mp hi
        exact z
      obtain ⟨g, hg, hx⟩ := paired_get ha hi
      have hx := hx.kt sm.kt
      have es : asub ((args T1).take (i + 1)) = asub ((args T1).take i) ++ asub [g] := by
        rw [List.take_add_one, hg]
        exact asub_snoc _ _
      rw [es]
      have hDr : D ≠ r := fun q => by rw [q, hr2] at hD; cases hD
      have hDH : H D = none := by
        cases z : H D with
        | none => rfl
        | some o => rw [sm2 _ _ z] at hD; cases hD
      refine ⟨rfl, ?_⟩
      cases g with
      | num n =>
        obtain rfl : x = .int (n : Nat) := hx
        refine ⟨_, rfl, _, _, .type "int", _, false, rfl, .ty _, .base (.int _), rfl, false, rfl, ?_⟩
        exact ifF rfl (ifF rfl ⟨acc, hacc, by rw [show asub [.num n] = [] from rfl, List.append_nil]; exact hpa, by omega, sm, hr'⟩)
      | poly q =>
        obtain ⟨pb, pv, rfl, hpb, hpv⟩ := hx
        refine ⟨_, rfl, _, _, .type "tuple", _, true, rfl, .ty _, .base (.tup hpb), rfl, true, rfl, ifT rfl ?_⟩
        refine ⟨_, rfl, by decide, fun e he => ⟨pb, e, pv, rfl, rfl, SqT.of (by rw [upd_ne (ne_of_none hpb he)]; exact hpb), SqT.of upd_same, _, rfl, ?_⟩⟩
        have sm3 : Same H' (upd H' e (.tup [])) := Same.new he
        have fin : ∃ acc, (upd H' e (.tup [])) D = some (.lst acc) ∧ Paired (TreeAt (upd H' e (.tup []))) acc (asub ((args T1).take i) ++ asub [.poly q]) ∧ acc.length ≤ i + 1 ∧ Same H (upd H' e (.tup [])) ∧ (upd H' e (.tup [])) r = some (.lst us) :=
          ⟨acc, sm3 _ _ hacc, by rw [show asub [.poly q] = [] from rfl, List.append_nil]; exact Paired.mapP hpa fun _ _ z => z.kt sm3.kt, by omega, sm.trans sm3, sm3 _ _ hr'⟩
        cases hpv with
        | nil => exact ifF rfl (ifF rfl fin)
        | @cons y0 q0 pv q hy hpv =>
          obtain ⟨yb, rfl, hyb⟩ := hy
          refine ifT rfl ⟨_, rfl, pb, _, _, _, rfl, rfl, SqT.of (sm3 _ _ hpb), at_of (j := 0) rfl rfl, _, _, .type "tuple", _, false, rfl, .ty _, .base (.tup (sm3 _ _ hyb)), rfl, false, rfl, ifF rfl fin⟩
      | sub t =>
        obtain ⟨tb, tu, rfl, htb, _⟩ := tree_shape hx
        refine ⟨_, rfl, _, _, .type "tuple", _, true, rfl, .ty _, .base (.tup htb), rfl, true, rfl, ifT rfl ?_⟩
        refine ⟨_, rfl, by decide, fun e he => ⟨tb, e, _, rfl, rfl, SqT.of (by rw [upd_ne (ne_of_none htb he)]; exact htb), SqT.of upd_same, _, rfl, ?_⟩⟩
        have sm3 : Same H' (upd H' e (.tup [])) := Same.new he
        refine ifT rfl ⟨_, rfl, tb, _, _, _, rfl, rfl, SqT.of (sm3 _ _ htb), at_of (j := 0) rfl rfl, _, _, .type "str", _, true, rfl, .ty _, .base (.str _), rfl, true, rfl, ifT rfl ?_⟩
        refine ⟨_, rfl, acc, sm3 _ _ hacc, szLt (by omega), acc ++ [.ref tb], upd_same, ?_, by simp; omega, (sm.trans sm3).aw hDH, by rw [upd_ne (Ne.symm hDr)]; exact sm3 _ _ hr'⟩
        have k4 : KT H' (upd (upd H' e (.tup [])) D (.lst (acc ++ [.ref tb]))) := fun b xs z => by
          rw [upd_ne (fun y => by rw [y, hacc] at z; cases z)]
          exact sm3 _ _ z
        exact pa_app (Paired.mapP hpa fun _ _ z => z.kt k4) (.cons (hx.kt k4) .nil)
    · rintro H' ⟨acc, hacc, hpa, hal, sm, hr'⟩
      have hDH : H D = none := by
        cases z : H D with
        | none => rfl
        | some o => rw [sm2 _ _ z] at hD; cases hD
      refine k _ D acc sm hDH hacc ?_ (by omega)
      unfold subs
      rw [hl, if_neg (by decide), ← show (args T1).take us.length = args T1 by rw [hlen, List.take_length]]
      exact hpa
end Rb
set_option maxRecDepth 100000
set_option maxHeartbeats 4000000
namespace Rb
open PySem PySem.Spec PyProof.Rows L2 SX RbR
open TL (numL)
variable {P : Program} {w : World} {K : PySem.W.Frag} {mg : Str → Option Value} {base : Heap} {a : Ads}
/-! ### node_count -/
def spCount (n : Nat) : Sp := fun vs H Q _ => ∃ (u : V) (T : Tm), vs = [u] ∧ TreeAt H u T ∧ nodes T ≤ n ∧ ∀ H', Same H H' → Q (.int (nodes T : Nat)) H'
theorem sum_mem {t : Tm} : ∀ {l : List Tm}, t ∈ l → nodes t ≤ (l.map nodes).sum
  | x :: l, h => by
    rw [List.map_cons, List.sum_cons]
    rcases List.mem_cons.mp h with rfl | h
    · omega
    · have := sum_mem h; omega
theorem sum_cast : ∀ l : List Tm, (l.map fun t => (nodes t : Int)).sum = ((l.map nodes).sum : Nat)
  | [] => rfl
  | x :: l => by
    rw [List.map_cons, List.sum_cons, List.map_cons, List.sum_cons, sum_cast l]
    omega
namespace D27
abbrev ST : Stmt := top 27
abbrev NS : List Str := ["tree", "part"]
theorem S : FnScope NS ["tree"] (defScope ST) := ⟨rfl, rfl, rfl, by decide +kernel, rfl, by decide +kernel, by decide +kernel⟩
end D27
theorem new_none {H H' : Hp} {D : Addr} (s : Same H H') (h : H' D = none) : H D = none := by
  cases z : H D with
  | none => rfl
  | some o => rw [s _ _ z] at h; cases h
open D27 in
theorem c_count (T : Txt w K mg a) : ∀ n, Cal P w K mg base L2.CX0 (2 + n) "node_count" (spCount n)
  | 0 => by
    refine cal0 T.d27 S (fun vs H Q E h => ?_) (fun _ _ _ _ _ _ us hl => match us, hl with | [_], _ => rfl) (fun f cdv A outer s H vs Q E hr h => ?_)
    · obtain ⟨u, _, rfl, _⟩ := h; rfl
    · obtain ⟨u, T1, rfl, _, h, _⟩ := h
      exfalso
      have := nodes_subs T1
      omega
  | n + 1 => by
    have c_parts_of := c_parts_of (P := P) (base := base) T
    have c_node_count := c_count T n
    refine cal0 (k := 2 + n) T.d27 S (fun vs H Q E h => ?_) (fun _ _ _ _ _ _ us hl => match us, hl with | [_], _ => rfl) (fun f cdv A outer s H vs Q E hr h => ?_)
    · obtain ⟨u, _, rfl, _⟩ := h; rfl
    obtain ⟨u, T1, rfl, ht, hn, k⟩ := h
    refine ⟨_, (pss_one (ps_ret (pe_op op_add pe_int (pe_callB (cr_sum rfl) rfl T.bSum (by decide +kernel) (pa_cons (pe_lc (own := [("part", 1)]) (g := (gName 1)) (tt := tYes) rfl S.nd (pi_list (pe_k c_parts_of hr (by omega) rfl L2.pass0 (pa_cons (pv 0) pa_nil))) (blkOk_by (N := NS) (sc := defScope ST) (by decide +kernel)) (fun _ _ _ _ _ => pg_name (i := 1) S.nd rfl (Or.inl rfl)) (fun _ _ _ _ _ => pts_nil) (fun _ _ _ _ _ => (pe_k c_node_count hr (by omega) rfl L2.pass0 (pa_cons (pv 1) pa_nil)))) pa_nil))))), ?_⟩
    refine ⟨_, rfl, u, T1, rfl, ht, fun H1 l us sm hl hl1 hp hus => ⟨l, rfl, ⟨us, SqL.of hl1⟩, fun D hD => lc_list (K := K) (a := l) (xs := us) (fun i H' => Same H1 H' ∧ H' D = some (.lst (((subs T1).take i).map fun t => V.int (nodes t : Nat)))) ⟨Same.new hD, upd_same⟩ (fun i H' _ h' => SqL.of (h'.1 l _ hl1)) ?_ ?_⟩⟩
    · intro i x H' hi ⟨sm', hD'⟩
      obtain ⟨t, hq, hx⟩ := paired_get hp hi
      have hmem : t ∈ subs T1 := List.mem_of_getElem? hq
      have h1 := sum_mem hmem
      have h2 := nodes_subs T1
      have hil : i < us.length := by
        obtain ⟨z, _⟩ := List.getElem?_eq_some_iff.mp hi
        exact z
      refine ⟨rfl, _, rfl, x, t, rfl, hx.kt sm'.kt, by omega, fun H2 sm2 => ⟨_, sm2 _ _ hD', ?_, (sm'.trans sm2).aw hD, ?_⟩⟩
      · rw [List.length_map, List.length_take]
        exact szLt (by omega)
      · rw [upd_same, List.take_add_one, hq]
        simp
    · rintro H' ⟨sm', hD'⟩
      rw [Paired.length hp, List.take_length] at hD'
      refine ⟨D, (subs T1).map fun t => (nodes t : Int), rfl, SqL.of ?_, _, _, rfl, rfl, ?_⟩
      · rw [hD', List.map_map]; rfl
      · rw [sum_cast]
        have h2 := nodes_subs T1
        have e : (1 : Int) + (((subs T1).map nodes).sum : Nat) = (nodes T1 : Nat) := by omega
        show Q (.int ((1 : Int) + (((subs T1).map nodes).sum : Nat))) H'
        rw [e]
        exact k H' (sm.trans sm')
/-! ### Reader(text) -/
def spIni (a : Ads) : Sp := fun vs H Q _ => ∃ (x dx : Addr) (t : Tx), vs = [.ref x, .str (S t)] ∧ t.length ≤ 400 ∧ H x = some (.ins a.cr dx []) ∧
  ∀ H' l, But x H H' → RS a.cr H' x (l, scan t ++ [[]]) (scan t ++ [[]]) 20 → Q .non H'
namespace D26_0
abbrev ST : Stmt := inCls 26 0
abbrev NS : List Str := ["self", "text"]
theorem S : FnScope NS ["self", "text"] (defScope ST) := ⟨rfl, rfl, rfl, by decide +kernel, rfl, by decide +kernel, by decide +kernel⟩
end D26_0
theorem ini_fs (l : Addr) : putF "opened" (.int 0) (putF "at" (.int 0) (putF "tokens" (.ref l) [])) = rfs l 0 0 := by
  show putF "opened" (.int 0) (putF "at" (.int 0) [(("tokens" : Str), V.ref l)]) = _
  rw [show putF "at" (.int 0) [(("tokens" : Str), V.ref l)] = [(("tokens" : Str), V.ref l), ("at", .int 0)] from by
    show (if ("tokens" : Str) = "at" then _ else (("tokens" : Str), V.ref l) :: [(("at" : Str), V.int 0)]) = _
    rw [if_neg ta_]]
  show (if ("tokens" : Str) = "opened" then _ else (("tokens" : Str), V.ref l) :: (if ("at" : Str) = "opened" then _ else (("at" : Str), V.int 0) :: [(("opened" : Str), V.int 0)])) = _
  rw [if_neg to_, if_neg ao_]
  rfl
open D26_0 in
theorem c_ini (T : Txt w K mg a) : ∃ (f : Addr) (fd : FuncData), Mk K a.cr f ∧ FnOk P w K mg base L2.CX0 3 f fd ["self", "text"] (spIni a) ∧ Binds K fd ["self", "text"] [] := by
  have c_tokens_of := c_tokens_of (P := P) (base := base) T
  obtain ⟨f, fd, F, mk⟩ := T.rIni
  refine ⟨f, fd, mk, F.ok S (fun vs H Q E h => ?_) (fun cdv A outer s H vs Q E hr h => ?_), F.binds (fun _ _ _ _ _ _ us hl => match us, hl with | [_, _], _ => rfl)⟩
  · obtain ⟨_, _, _, rfl, _⟩ := h; rfl
  obtain ⟨x, dx, t, rfl, hl, hx, k⟩ := h
  refine ⟨_, (pss_cons (ps_fld (pv 0) (pe_k c_tokens_of hr (by omega) rfl L2.pass0 (pa_cons (pv 1) pa_nil)) rfl)
  (pss_cons (ps_fld (pv 0) pe_int rfl)
  (pss_one (ps_fld (pv 0) pe_int rfl)))), ?_⟩
  refine ⟨_, rfl, t, rfl, by omega, fun H1 l sm hn ht => ?_⟩
  have hx1 := sm _ _ hx
  refine ⟨_, rfl, x, a.cr, dx, [], rfl, hx1, T.cl, T.nTok, by decide, ?_⟩
  refine ⟨_, rfl, x, a.cr, dx, _, rfl, upd_same, T.cl, T.nAt, by show 1 < 1000; decide, ?_⟩
  refine ⟨_, rfl, x, a.cr, dx, _, rfl, upd_same, T.cl, T.nOpn, ?_, ?_⟩
  · rw [show putF "at" (.int 0) (putF "tokens" (.ref l) []) = [(("tokens" : Str), V.ref l), ("at", .int 0)] from by
      show (if ("tokens" : Str) = "at" then _ else (("tokens" : Str), V.ref l) :: [(("at" : Str), V.int 0)]) = _
      rw [if_neg ta_]]
    show 2 < 1000
    decide
  rw [ini_fs]
  have b1 : But x H1 (upd (upd (upd H1 x (.ins a.cr dx (putF "tokens" (.ref l) []))) x (.ins a.cr dx (putF "at" (.int 0) (putF "tokens" (.ref l) [])))) x (.ins a.cr dx (rfs l 0 0))) := (But.refl x H1).put.put.put
  refine k _ l ((sm.but x).trans b1) ⟨⟨[], rfl⟩, ⟨scan t, rfl⟩, ⟨?_, toks_wf t, fun u hu => ?_⟩, l, dx, 0, 0, Nat.zero_add _, rfl, upd_same, TL2.but ⟨rfl, ht⟩ b1 hx1⟩
  · have := toks_len t; show (scan t ++ [[]]).length ≤ 1000; omega
  · have := tok_len hu; omega
/-! ### tree_of, parse_term -/
def ParseK (a : Ads) (t : Tx) (H : Hp) (Q : VK) (E : XK) : Prop :=
  (∀ T, parseT t = some T → ∀ u H', Same H H' → TreeAt H' u T → Q u H') ∧ (parseT t = none → ∀ cls d H', Same H H' → ErrAt a H' cls d → E cls d H')
def spTree (a : Ads) : Sp := fun vs H Q E => ∃ (t : Tx), vs = [.str (S t)] ∧ t.length ≤ 400 ∧ (∀ T r, Rb.P 20 (scan t ++ [[]]) = some (T, r) → nodes T ≤ 170) ∧ ParseK a t H Q E
def spParse (a : Ads) : Sp := fun vs H Q E => ∃ (t : Tx), vs = [.str (S t)] ∧ t.length ≤ 100000 ∧ (∀ T r, Rb.P 20 (scan t ++ [[]]) = some (T, r) → nodes T ≤ 170) ∧ ParseK a t H Q E
namespace D30
abbrev ST : Stmt := top 30
abbrev NS : List Str := ["text", "reader", "found"]
theorem S : FnScope NS ["text"] (defScope ST) := ⟨rfl, rfl, rfl, by decide +kernel, rfl, by decide +kernel, by decide +kernel⟩
end D30
theorem parse_eq {t : Tx} (h : t.length ≤ 400) : parseT t = match Rb.P 20 (scan t ++ [[]]) with | none => none | some (T, r) => match r with | [] => none | t' :: _ => if t' = [] then (if nodes T > 60 then none else some T) else none := if_neg (by omega)
open D30 in
theorem c_tree_of (T : Txt w K mg a) : Cal P w K mg base (L2.CX P w) 175 "tree_of" (spTree a) := by
  obtain ⟨fi, fdi, mki, Fi, bi⟩ := c_ini (P := P) (mg := mg) (base := base) T
  obtain ⟨f1, fd1, ps1, F1, hc1, ht1, hb1⟩ := (c_err6 (P := P) (base := base) T).ex
  have m_term := m_term1 (P := P) (base := base) T
  have m_take := m_take (P := P) (base := base) T
  have c_node_count := c_count (P := P) (base := base) T 170
  refine calX (k := 174) T.d30 S (fun vs H Q E h => ?_) (fun _ _ _ _ _ _ us hl => match us, hl with | [_], _ => rfl) (fun f cdv A outer s H vs Q E hr h => ?_)
  · obtain ⟨_, rfl, _⟩ := h; rfl
  obtain ⟨t, rfl, hl, hn, k1, k2⟩ := h
  refine ⟨_, (pss_cons (ps_set (i := 1) S.nd rfl (Or.inl rfl) (pe_make mki Fi (hr.mono (by decide)) rfl T.gR bi .nil L2.pass0 (pa_cons (pv 0) pa_nil)))
  (pss_cons (ps_set (i := 2) S.nd rfl (Or.inl rfl) (pe_m m_term hr (by omega) (passes_call (takes_of rfl rfl rfl rfl) (fun _ _ _ _ h => h)) (pv 1) (pa_cons pe_int pa_nil)))
  (pss_cons (ps_expr (pe_m m_take hr (by omega) (passes_call (takes_of rfl rfl rfl rfl) (fun _ _ _ _ h => h)) (pv 1) (pa_cons pe_str pa_nil)))
  (pss_cons (ps_if (pt_cmpR op_gt (pe_k c_node_count hr (by omega) rfl L2.pass0 (pa_cons (pv 2) pa_nil)) (C8.pe_gc rfl T.cNod) (nomark _))
    (pss_one (ps_raise rfl (takes_of rfl rfl rfl rfl) (pmk_oex T.e6.ox hc1 ht1 F1 (hr.mono (by decide)) hb1 .nil L2.pass0 rfl T.e6.gC (pa_cons (C8.pe_gc rfl T.cNod) pa_nil))))
    pss_nil)
  (pss_one (ps_ret (pv 2))))))), ?_⟩
  refine ⟨_, rfl, fun x dx hx0 hdx0 hne => ?_⟩
  have sm0 : Same H (upd (upd H dx (.own x)) x (.ins a.cr dx [])) := (Same.new hdx0).trans (Same.new (by rw [upd_ne (Ne.symm hne)]; exact hx0))
  refine ⟨x, dx, t, rfl, hl, upd_same, fun H1 l b1 rs1 => ⟨rfl, ?_⟩⟩
  have same : ∀ {H' : Hp}, But x (upd (upd H dx (.own x)) x (.ins a.cr dx [])) H' → Same H H' := fun b c o q => b _ _ (ne_of_none q hx0) (sm0 _ _ q)
  obtain ⟨_, _, _, l1, dx1, n1, m1, _, _, hx1, _⟩ := id rs1
  have epa := parse_eq hl
  refine ⟨_, rfl, x, dx1, _, rfl, hx1, rfl, x, (l, scan t ++ [[]]), scan t ++ [[]], 20, rfl, rs1, Nat.le_refl _, fun T1 r hT v H2 b2 rs2 hv => ?_, fun hT cls d H' b' e' => k2 (by rw [epa, show Rb.P 20 (scan t ++ [[]]) = none from hT]) cls d H' (same (b1.trans b')) e'⟩
  have hT : Rb.P 20 (scan t ++ [[]]) = some (T1, r) := hT
  have hn1 := hn _ _ hT
  rw [hT] at epa
  obtain ⟨t', r', rfl, _⟩ := rs2.cur
  have epa : parseT t = if t' = [] then (if nodes T1 > 60 then none else some T1) else none := epa
  obtain ⟨_, _, _, l2, dx2, n2, m2, _, _, hx2, _⟩ := id rs2
  refine ⟨_, rfl, x, dx2, _, rfl, hx2, rfl, x, (l, scan t ++ [[]]), r', t', [], 20, rfl, rs2, fun h0 H3 b3 _ => ?_, fun h0 cls d H' b' e' => k2 (by rw [epa, if_neg h0]) cls d H' (same ((b1.trans b2).trans b')) e'⟩
  rw [if_pos h0] at epa
  have hv3 := hv.kt (b3.kt' hx2)
  have b4 := (b1.trans b2).trans b3
  refine ⟨_, rfl, v, T1, rfl, hv3, hn1, fun H4 sm4 => ⟨_, _, rfl, rfl, _, rfl, ?_⟩⟩
  have sm := (same b4).trans sm4
  by_cases h6 : nodes T1 > 60
  · rw [if_pos h6] at epa
    exact ifT (decide_eq_true (by omega)) (err_go fun dd H' sm' hd' => k2 epa _ _ _ (sm.trans sm') ⟨dd, rfl, .inr (.inr ⟨rfl, _, hd'⟩)⟩)
  · rw [if_neg h6] at epa
    exact ifF (decide_eq_false (by omega)) ⟨_, rfl, k1 _ epa _ _ sm (hv3.kt sm4.kt)⟩
namespace D29
abbrev ST : Stmt := top 29
abbrev NS : List Str := ["text"]
theorem S : FnScope NS ["text"] (defScope ST) := ⟨rfl, rfl, rfl, by decide +kernel, rfl, by decide +kernel, by decide +kernel⟩
end D29
open D29 in
theorem c_parse_term (T : Txt w K mg a) : Cal P w K mg base (L2.CX P w) 176 "parse_term" (spParse a) := by
  obtain ⟨f1, fd1, ps1, F1, hc1, ht1, hb1⟩ := (c_err4 (P := P) (base := base) T).ex
  have c_tree_of := c_tree_of (P := P) (base := base) T
  refine calX (k := 175) T.d29 S (fun vs H Q E h => ?_) (fun _ _ _ _ _ _ us hl => match us, hl with | [_], _ => rfl) (fun f cdv A outer s H vs Q E hr h => ?_)
  · obtain ⟨_, rfl, _⟩ := h; rfl
  obtain ⟨t, rfl, hl, hn, k1, k2⟩ := h
  refine ⟨_, (pss_cons (ps_if (pt_cmpR op_gt (pe_callB call_len_str rfl T.bLen (by decide +kernel) (pa_cons (pv 0) pa_nil)) (C8.pe_gc rfl T.cTxt) (nomark _))
    (pss_one (ps_raise rfl (takes_of rfl rfl rfl rfl) (pmk_oex T.e4.ox hc1 ht1 F1 (hr.mono (by decide)) hb1 .nil L2.pass0 rfl T.e4.gC (pa_cons (C8.pe_gc rfl T.cTxt) pa_nil))))
    pss_nil)
  (pss_one (ps_ret (pe_k c_tree_of hr (by omega) rfl (passes_call (takes_of rfl rfl rfl rfl) (fun _ _ _ _ h => h)) (pa_cons (pv 0) pa_nil))))), ?_⟩
  refine ⟨_, rfl, S t, rfl, by rw [S_len]; exact szL (by omega), _, _, rfl, rfl, _, rfl, ?_⟩
  rw [S_len]
  by_cases h4 : t.length > 400
  · exact ifT (decide_eq_true (by omega)) (err_go fun dd H' sm' hd' => k2 (if_pos h4) _ _ _ sm' ⟨dd, rfl, .inl ⟨rfl, _, hd'⟩⟩)
  · exact ifF (decide_eq_false (by omega)) ⟨_, rfl, t, rfl, by omega, hn, k1, k2⟩
end Rb
set_option maxRecDepth 100000
set_option maxHeartbeats 4000000
namespace Rb
open PySem PySem.Spec PyProof.Rows L2 SX RbR
open TL (numL)
variable {P : Program} {w : World} {K : PySem.W.Frag} {mg : Str → Option Value} {base : Heap} {a : Ads}
/-! ### the texts of the parts -/
def itemTx : Arg → Tx
  | .num n => numL n
  | .poly p => 91 :: (numsTx p ++ [93])
  | .sub t => fmt t
def sg : Arg → Nat
  | .num _ => 110
  | .poly _ => 112
  | .sub _ => 101
def AOk : Arg → Prop
  | .num n => NuOk n
  | .poly p => ∀ q ∈ p, RtOk q
  | .sub t => Ok t
def isFn : Tm → Bool
  | .roots _ => true | .unity _ => true | .map _ _ => true | .sums _ _ => true | .prods _ _ => true | .dist _ => true | .comm _ _ => true | .wout _ _ => true | _ => false
def isBin : Tm → Bool
  | .bin _ _ _ => true | _ => false
def isName : Tm → Bool
  | .name _ => true | _ => false
def isList : Tm → Bool
  | .list _ => true | _ => false
def isNeg : Tm → Bool
  | .neg _ => true | _ => false
def isPow : Tm → Bool
  | .pow _ _ => true | _ => false
def wdT : Tm → Tx
  | .roots _ => wRoots | .unity _ => wUnity | .map _ _ => wMap | .sums _ _ => wSums | .prods _ _ => wProds | .dist _ => wDist | .comm _ _ => wComm | .wout _ _ => wWout | _ => []
theorem fn_word : ∀ {T : Tm}, isFn T = true → word T = S (wdT T)
  | .roots _, _ => rfl | .unity _, _ => rfl | .map _ _, _ => rfl | .sums _ _, _ => rfl | .prods _ _, _ => rfl | .dist _, _ => rfl | .comm _ _, _ => rfl | .wout _ _, _ => rfl
theorem fn_form : ∀ {T : Tm}, isFn T = true → tForms.lookup (word T) = some (.str (S ((args T).map sg)))
  | .roots _, _ => rfl | .unity _, _ => rfl | .map _ _, _ => rfl | .sums _ _, _ => rfl | .prods _ _, _ => rfl | .dist _, _ => rfl | .comm _ _, _ => rfl | .wout _ _, _ => rfl
theorem fn_fmt : ∀ {T : Tm}, isFn T = true → fmt T = wdT T ++ 40 :: (TL.joinL [44, 32] ((args T).map itemTx) ++ [41])
  | .roots p, _ => by simp [fmt, wdT, args, itemTx, TL.joinL]
  | .unity _, _ => by simp [fmt, wdT, args, itemTx, TL.joinL]
  | .map _ _, _ => by simp [fmt, wdT, args, itemTx, TL.joinL]
  | .sums _ _, _ => by simp [fmt, wdT, args, itemTx, TL.joinL]
  | .prods _ _, _ => by simp [fmt, wdT, args, itemTx, TL.joinL]
  | .dist _, _ => by simp [fmt, wdT, args, itemTx, TL.joinL]
  | .comm _ _, _ => by simp [fmt, wdT, args, itemTx, TL.joinL]
  | .wout _ _, _ => by simp [fmt, wdT, args, itemTx, TL.joinL]
theorem fn_ok : ∀ {T : Tm}, isFn T = true → Ok T → ∀ g ∈ args T, AOk g ∧ an g + 1 ≤ nodes T
  | .roots p, _, ok, g, h => by
    obtain rfl : g = .poly p := by simpa [args] using h
    exact ⟨ok.1.1, by simp [an, nodes]⟩
  | .unity n, _, ok, g, h => by
    obtain rfl : g = .num n := by simpa [args] using h
    exact ⟨ok, by simp [an, nodes]⟩
  | .map p x, _, ok, g, h => by
    have h : g = .poly p ∨ g = .sub x := by simpa [args] using h
    rcases h with rfl | rfl
    · exact ⟨ok.1.1, by simp [an, nodes]⟩
    · exact ⟨ok.2, by simp [an, nodes]; omega⟩
  | .sums x n, _, ok, g, h => by
    have h : g = .sub x ∨ g = .num n := by simpa [args] using h
    rcases h with rfl | rfl
    · exact ⟨ok.1, by simp [an, nodes]; omega⟩
    · exact ⟨ok.2, by simp [an, nodes]⟩
  | .prods x n, _, ok, g, h => by
    have h : g = .sub x ∨ g = .num n := by simpa [args] using h
    rcases h with rfl | rfl
    · exact ⟨ok.1, by simp [an, nodes]; omega⟩
    · exact ⟨ok.2, by simp [an, nodes]⟩
  | .dist x, _, ok, g, h => by
    obtain rfl : g = .sub x := by simpa [args] using h
    exact ⟨ok, by simp [an, nodes]; omega⟩
  | .comm x y, _, ok, g, h => by
    have h : g = .sub x ∨ g = .sub y := by simpa [args] using h
    rcases h with rfl | rfl
    · exact ⟨ok.1, by simp [an, nodes]; omega⟩
    · exact ⟨ok.2, by simp [an, nodes]; omega⟩
  | .wout x y, _, ok, g, h => by
    have h : g = .sub x ∨ g = .sub y := by simpa [args] using h
    rcases h with rfl | rfl
    · exact ⟨ok.1, by simp [an, nodes]; omega⟩
    · exact ⟨ok.2, by simp [an, nodes]; omega⟩
theorem lens_mem {x : Tx} : ∀ {l : List Tx}, x ∈ l → x.length ≤ (TL.joinL [44, 32] l).length := fun {l} h => by
  have h1 := lens_sum l
  have : ∀ {l : List Tx}, x ∈ l → x.length ≤ (l.map (·.length)).sum := by
    intro l h
    induction l with
    | nil => cases h
    | cons y l ih =>
      rw [List.map_cons, List.sum_cons]
      rcases List.mem_cons.mp h with rfl | h
      · omega
      · have := ih h; omega
  exact Nat.le_trans (this h) h1
theorem fn_len {T : Tm} (h : isFn T = true) (g : Arg) (hg : g ∈ args T) : (itemTx g).length ≤ (fmt T).length := by
  rw [fn_fmt h]
  have := lens_mem (List.mem_map_of_mem (f := itemTx) hg)
  simp
  omega
theorem numTx_pos (q : Rt) : 0 < (numTx q).length := by
  have hi : ∀ i : Int, 0 < (intTx i).length := fun i => by
    unfold intTx
    split
    · simp
    · exact List.length_pos_iff.mpr (TL.numL_ne _)
  unfold numTx
  split
  · exact hi _
  · have := hi q.1; simp; omega
theorem nums_len (qs : List Rt) : qs.length ≤ (numsTx qs).length := by
  have h1 := lens_sum (qs.map numTx)
  have h2 : ∀ qs : List Rt, qs.length ≤ (((qs.map numTx).map (·.length))).sum := by
    intro qs
    induction qs with
    | nil => simp
    | cons q r ih =>
      have := numTx_pos q
      rw [List.map_cons, List.map_cons, List.sum_cons, List.length_cons]
      omega
  exact Nat.le_trans (h2 qs) h1
theorem lev_look (T : Tm) (n : Nat) (h : n = 6) : (tLevels.lookup (word T)).getD (.int (n : Nat)) = .int (lev T : Nat) := by
  subst h
  cases T with
  | bin o _ _ => cases o <;> rfl
  | _ => rfl
theorem w_name (T : Tm) : decide (V.str (word T) = V.str "name") = isName T := by
  cases T with
  | bin o _ _ => cases o <;> exact dnS (by simp only [word]; decide)
  | name _ => exact decide_eq_true rfl
  | _ => exact dnS (by simp only [word]; decide)
theorem w_list (T : Tm) : decide (V.str (word T) = V.str "list") = isList T := by
  cases T with
  | bin o _ _ => cases o <;> exact dnS (by simp only [word]; decide)
  | list _ => exact decide_eq_true rfl
  | _ => exact dnS (by simp only [word]; decide)
theorem w_neg (T : Tm) : decide (V.str (word T) = V.str "negative") = isNeg T := by
  cases T with
  | bin o _ _ => cases o <;> exact dnS (by simp only [word]; decide)
  | neg _ => exact decide_eq_true rfl
  | _ => exact dnS (by simp only [word]; decide)
theorem w_pow (T : Tm) : decide (V.str (word T) = V.str "power") = isPow T := by
  cases T with
  | bin o _ _ => cases o <;> exact dnS (by simp only [word]; decide)
  | pow _ _ => exact decide_eq_true rfl
  | _ => exact dnS (by simp only [word]; decide)
theorem w_pair (T : Tm) : (tPairs.lookup (word T)).isSome = isBin T := by
  cases T with
  | bin o _ _ => cases o <;> rfl
  | _ => rfl
end Rb
set_option maxRecDepth 100000
set_option maxHeartbeats 4000000
namespace Rb
open PySem PySem.Spec PyProof.Rows L2 SX RbR
open TL (numL)
variable {P : Program} {w : World} {K : PySem.W.Frag} {mg : Str → Option Value} {base : Heap} {a : Ads}
def spFmt (n : Nat) : Sp := fun vs H Q _ => ∃ (u : V) (T : Tm), vs = [u] ∧ TreeAt H u T ∧ Ok T ∧ nodes T ≤ n ∧ (fmt T).length ≤ 1000 ∧ ∀ H', Same H H' → Q (.str (S (fmt T))) H'
def spWrap (n : Nat) : Sp := fun vs H Q _ => ∃ (u : V) (T : Tm) (l : Nat), vs = [u, .int (l : Nat)] ∧ TreeAt H u T ∧ Ok T ∧ nodes T ≤ n ∧ (fmt T).length ≤ 1000 ∧ ∀ H', Same H H' → Q (.str (S (fmtw l T))) H'
def spItem (n : Nat) : Sp := fun vs H Q _ => ∃ (u : V) (g : Arg), vs = [u, .str (S [sg g])] ∧ ArgAt H u g ∧ AOk g ∧ an g ≤ n ∧ (itemTx g).length ≤ 1000 ∧ ∀ H', Same H H' → Q (.str (S (itemTx g))) H'
theorem fin_str {Q : VK} {H : Hp} {z z' : Tx} (h : Q (.str (S z)) H) (e : z' = z) : Q (.str (S z')) H := by rw [e]; exact h
theorem int_nat (n : Nat) : intTx (n : Nat) = numL n := by
  unfold intTx
  rw [if_neg (by omega)]
  rfl
namespace D32
abbrev ST : Stmt := top 32
abbrev NS : List Str := ["tree", "level", "text"]
theorem S : FnScope NS ["tree", "level"] (defScope ST) := ⟨rfl, rfl, rfl, by decide +kernel, rfl, by decide +kernel, by decide +kernel⟩
end D32
open D32 in
theorem c_wrapped (T : Txt w K mg a) (n k : Nat) (c_format_term : Cal P w K mg base L2.CX0 k "format_term" (spFmt n)) : Cal P w K mg base L2.CX0 (k + 1) "wrapped" (spWrap n) := by
  refine cal0 T.d32 S (fun vs H Q E h => ?_) (fun _ _ _ _ _ _ us hl => match us, hl with | [_, _], _ => rfl) (fun f cdv A outer s H vs Q E hr h => ?_)
  · obtain ⟨_, _, _, rfl, _⟩ := h; rfl
  obtain ⟨u, T1, l, rfl, ht, ok, hn, hl, k1⟩ := h
  refine ⟨_, (pss_cons (ps_set (i := 2) S.nd rfl (Or.inl rfl) (pe_k c_format_term hr (by omega) rfl L2.pass0 (pa_cons (pv 0) pa_nil)))
  (pss_one (ps_ret (pe_ifExp (pt_cmpR op_lt (pe_tget T.dLv (C8.pe_gc rfl T.gLv) (pe_ix ix_tup (pv 0) pe_int (fun _ _ => rfl)) pe_int ⟨rfl, rfl, rfl, rfl⟩) (pv 1) (nomark _)) (pe_joined (.cons pe_str (.cons (pe_fmt (pv 2)) (.cons pe_str .nil)))) (pv 2))))), ?_⟩
  refine ⟨_, rfl, u, T1, rfl, ht, ok, hn, hl, fun H1 sm => ?_⟩
  obtain ⟨b, us, rfl, hb, hus⟩ := tree_shape ht
  have hb1 := sm _ _ hb
  refine ⟨rfl, _, rfl, b, _, _, _, rfl, rfl, SqT.of hb1, at_of (j := 0) rfl rfl, _, rfl, _, rfl, ?_⟩
  have e6 : (tLevels.lookup (word T1)).getD (V.int 6) = .int (lev T1 : Nat) := lev_look T1 6 rfl
  rw [e6]
  refine ⟨_, _, rfl, rfl, _, rfl, ?_⟩
  by_cases h : lev T1 < l
  · refine ifT (decide_eq_true (by omega)) ⟨S [40], rfl, by (simp only [emp_cat, S_cat, S_len, List.length_append, List.length_cons, List.length_nil]; exact szL (by omega)), ?_⟩
    rw [emp_cat]
    refine ⟨_, rfl, .inl ⟨_, rfl, by (simp only [emp_cat, S_cat, S_len, List.length_append, List.length_cons, List.length_nil]; exact szL (by omega)), _, rfl, by (simp only [emp_cat, S_cat, S_len, List.length_append, List.length_cons, List.length_nil]; exact szL (by omega)), ?_⟩⟩
    rw [S_cat]
    refine ⟨S [41], rfl, by (simp only [emp_cat, S_cat, S_len, List.length_append, List.length_cons, List.length_nil]; exact szL (by omega)), ?_⟩
    rw [S_cat]
    refine fin_str (k1 _ sm) ?_
    rw [fmtw_lt h]
    simp
  · refine ifF (decide_eq_false (by omega)) ⟨_, rfl, ?_⟩
    have := k1 _ sm
    rw [fmtw_ge (by omega)] at this
    exact this
namespace D33
abbrev ST : Stmt := top 33
abbrev NS : List Str := ["part", "sign"]
theorem S : FnScope NS ["part", "sign"] (defScope ST) := ⟨rfl, rfl, rfl, by decide +kernel, rfl, by decide +kernel, by decide +kernel⟩
end D33
open D33 in
theorem c_item_text (T : Txt w K mg a) (n k : Nat) (hk : 2 ≤ k) (c_format_term : Cal P w K mg base L2.CX0 k "format_term" (spFmt n)) : Cal P w K mg base L2.CX0 (k + 1) "item_text" (spItem n) := by
  have c_numbers_text := c_numbers_text (P := P) (base := base) T
  refine cal0 T.d33 S (fun vs H Q E h => ?_) (fun _ _ _ _ _ _ us hl => match us, hl with | [_, _], _ => rfl) (fun f cdv A outer s H vs Q E hr h => ?_)
  · obtain ⟨_, _, rfl, _⟩ := h; rfl
  obtain ⟨u, g, rfl, hg, ok, hn, hl, k1⟩ := h
  refine ⟨_, (pss_cons (ps_if (pt_cmpR op_eq (pv 1) pe_str (nomark _))
    (pss_one (ps_ret (pe_callTy call_str_int rfl T.bStr (by decide +kernel) (pa_cons (pv 0) pa_nil))))
    pss_nil)
  (pss_one (ps_ret (pe_ifExp (pt_cmpR op_eq (pv 1) pe_str (nomark _)) (pe_k c_format_term hr (by omega) rfl L2.pass0 (pa_cons (pv 0) pa_nil)) (pe_joined (.cons pe_str (.cons (pe_fmt (pe_k c_numbers_text hr (by omega) rfl L2.pass0 (pa_cons (pv 0) pa_nil))) (.cons pe_str .nil)))))))), ?_⟩
  refine ⟨_, rfl, rfl, _, rfl, ?_⟩
  rw [show (V.str "n") = V.str (S [110]) from rfl, neS]
  cases g with
  | num v =>
    obtain rfl : u = .int (v : Nat) := hg
    refine ifT (decide_eq_true rfl) ⟨_, rfl, _, rfl, lg (Nat.lt_of_lt_of_le ok (by decide +kernel)), ?_⟩
    rw [str_int, int_nat]
    exact k1 _ (Same.refl _)
  | sub t =>
    refine ifF (decide_eq_false (by show ¬ ([101] : Tx) = [110]; decide)) ⟨_, rfl, rfl, _, rfl, ?_⟩
    rw [show (V.str "e") = V.str (S [101]) from rfl, neS]
    exact ifT (decide_eq_true rfl) ⟨_, rfl, u, t, rfl, hg, ok, hn, hl, k1⟩
  | poly q =>
    refine ifF (decide_eq_false (by show ¬ ([112] : Tx) = [110]; decide)) ⟨_, rfl, rfl, _, rfl, ?_⟩
    rw [show (V.str "e") = V.str (S [101]) from rfl, neS]
    have hl2 : (numsTx q).length + 2 ≤ 1000 := by
      have : (itemTx (.poly q)).length = (numsTx q).length + 2 := by simp [itemTx]
      omega
    have hql := nums_len q
    refine ifF (decide_eq_false (by show ¬ ([112] : Tx) = [101]; decide)) ⟨S [91], rfl, by (simp only [emp_cat, S_cat, S_len, List.length_append, List.length_cons, List.length_nil]; exact szL (by omega)), ?_⟩
    rw [emp_cat]
    refine ⟨_, rfl, u, q, rfl, hg, fun q hq => (ok q hq).num, by omega, fun H1 sm => .inl ⟨_, rfl, by (simp only [emp_cat, S_cat, S_len, List.length_append, List.length_cons, List.length_nil]; exact szL (by omega)), _, rfl, by (simp only [emp_cat, S_cat, S_len, List.length_append, List.length_cons, List.length_nil]; exact szL (by omega)), ?_⟩⟩
    rw [S_cat]
    refine ⟨S [93], rfl, by (simp only [emp_cat, S_cat, S_len, List.length_append, List.length_cons, List.length_nil]; exact szL (by omega)), ?_⟩
    rw [S_cat]
    exact fin_str (k1 _ sm) (by simp [itemTx])
namespace D34
abbrev ST : Stmt := top 34
abbrev NS : List Str := ["tree", "word", "rest", "level", "part", "sign"]
theorem S : FnScope NS ["tree"] (defScope ST) := ⟨rfl, rfl, rfl, by decide +kernel, rfl, by decide +kernel, by decide +kernel⟩
end D34
open D34 in
theorem c_format_step (T : Txt w K mg a) (n k : Nat) (hk : 2 ≤ k) (c_wrapped : Cal P w K mg base L2.CX0 k "wrapped" (spWrap n)) (c_item_text : Cal P w K mg base L2.CX0 k "item_text" (spItem n)) : Cal P w K mg base L2.CX0 (k + 1) "format_term" (spFmt (n + 1)) := by
  have c_numbers_text := c_numbers_text (P := P) (base := base) T
  refine cal0 T.d34 S (fun vs H Q E h => ?_) (fun _ _ _ _ _ _ us hl => match us, hl with | [_], _ => rfl) (fun f cdv A outer s H vs Q E hr h => ?_)
  · obtain ⟨_, _, rfl, _⟩ := h; rfl
  obtain ⟨u, T1, rfl, ht, ok, hn, hl, k1⟩ := h
  refine ⟨_, (pss_cons (ps_asg (pv 0) (pg_star (k2 := 0) rfl (pg_name (i := 1) S.nd rfl (Or.inl rfl)) (pg_name (i := 2) S.nd rfl (Or.inl rfl))))
  (pss_cons (ps_if (pt_cmpR op_eq (pv 1) pe_str (nomark _))
    (pss_one (ps_ret (pe_ix ix_list (pv 2) pe_int (fun _ _ => rfl))))
    pss_nil)
  (pss_cons (ps_if (pt_cmpR op_eq (pv 1) pe_str (nomark _))
    (pss_one (ps_ret (pe_joined (.cons pe_str (.cons (pe_fmt (pe_k c_numbers_text hr (by omega) rfl L2.pass0 (pa_cons (pe_ix ix_list (pv 2) pe_int (fun _ _ => rfl)) pa_nil))) (.cons pe_str .nil))))))
    pss_nil)
  (pss_cons (ps_if (pt_cmpR (op_in_tab T.dPr) (pv 1) (C8.pe_gc rfl T.gPr) rfl)
    (pss_cons (ps_set (i := 3) S.nd rfl (Or.inl rfl) (pe_ix (ix_tab T.dLv) (C8.pe_gc rfl T.gLv) (pv 1) (fun _ _ => rfl)))
    (pss_one (ps_ret (pe_joined (.cons (pe_fmt (pe_k c_wrapped hr (by omega) rfl L2.pass0 (pa_cons (pe_ix ix_list (pv 2) pe_int (fun _ _ => rfl)) (pa_cons (pv 3) pa_nil)))) (.cons pe_str (.cons (pe_fmt (pe_ix (ix_tab T.dPr) (C8.pe_gc rfl T.gPr) (pv 1) (fun _ _ => rfl))) (.cons pe_str (.cons (pe_fmt (pe_k c_wrapped hr (by omega) rfl L2.pass0 (pa_cons (pe_ix ix_list (pv 2) pe_int (fun _ _ => rfl)) (pa_cons (pe_op op_add (pv 3) pe_int) pa_nil)))) .nil)))))))))
    pss_nil)
  (pss_cons (ps_if (pt_cmpR op_eq (pv 1) pe_str (nomark _))
    (pss_one (ps_ret (pe_joined (.cons pe_str (.cons (pe_fmt (pe_k c_wrapped hr (by omega) rfl L2.pass0 (pa_cons (pe_ix ix_list (pv 2) pe_int (fun _ _ => rfl)) (pa_cons pe_int pa_nil)))) .nil)))))
    pss_nil)
  (pss_cons (ps_if (pt_cmpR op_eq (pv 1) pe_str (nomark _))
    (pss_one (ps_ret (pe_joined (.cons (pe_fmt (pe_k c_wrapped hr (by omega) rfl L2.pass0 (pa_cons (pe_ix ix_list (pv 2) pe_int (fun _ _ => rfl)) (pa_cons pe_int pa_nil)))) (.cons pe_str (.cons (pe_fmt (pe_ix ix_list (pv 2) pe_int (fun _ _ => rfl))) .nil))))))
    pss_nil)
  (pss_one (ps_ret (pe_op op_add_str (pe_op op_add_str (pe_op op_add_str (pv 1) pe_str) (pe_join pe_str (pe_lc (own := [("part", 4), ("sign", 5)]) (g := (gTup K 2 (gCons (gName 4) (gCons (gName 5) gNil)))) (tt := tYes) rfl S.nd (pi_zipS rfl T.bZip (pa_cons (pv 2) (pa_cons (pe_ix (ix_tab T.dFm) (C8.pe_gc rfl T.gFm) (pv 1) (fun _ _ => rfl)) pa_nil))) (blkOk_by (N := NS) (sc := defScope ST) (by decide +kernel)) (fun _ _ _ _ _ => pg_tup rfl (pgs_cons (pg_name (i := 4) S.nd rfl (Or.inl rfl)) (pgs_cons (pg_name (i := 5) S.nd rfl (Or.inl rfl)) pgs_nil))) (fun _ _ _ _ _ => pts_nil) (fun _ _ _ _ _ => (pe_k c_item_text hr (by omega) rfl L2.pass0 (pa_cons (pv 4) (pa_cons (pv 5) pa_nil))))))) pe_str))))))))), ?_⟩
  obtain ⟨b, us, rfl, hb, hus⟩ := tree_shape ht
  refine ⟨_, rfl, b, _, _, rfl, SqT.of hb, by omega, fun r hr0 => ?_⟩
  have sm1 : Same H (upd H r (.lst us)) := Same.new hr0
  have hr1 : (upd H r (.lst us)) r = some (.lst us) := upd_same
  generalize upd H r (.lst us) = H1 at sm1 hr1
  refine ⟨_, rfl, rfl, _, rfl, ?_⟩
  rw [w_name]
  have fin : isFn T1 = true → isName T1 = false ∧ isList T1 = false ∧ isNeg T1 = false ∧ isPow T1 = false ∧ isBin T1 = false := fun h => by
    cases T1 <;> first | exact ⟨rfl, rfl, rfl, rfl, rfl⟩ | cases h
  cases hfn : isFn T1 with
  | true =>
    obtain ⟨f1, f2, f3, f4, f5⟩ := fin hfn
    refine ifF f1 ⟨_, rfl, rfl, _, rfl, ?_⟩
    rw [w_list]
    refine ifF f2 ⟨_, rfl, _, rfl, rfl, _, rfl, ?_⟩
    rw [w_pair]
    refine ifF f5 ⟨_, rfl, rfl, _, rfl, ?_⟩
    rw [w_neg]
    refine ifF f3 ⟨_, rfl, rfl, _, rfl, ?_⟩
    rw [w_pow]
    refine ifF f4 ?_
    have hargs := tree_args ht rfl hb ⟨fun s e => (by subst e; cases hfn), fun q e => (by subst e; cases hfn)⟩
    have hlen := Paired.length hargs
    have hfo := fn_form hfn
    have hfm := fn_fmt hfn
    rw [fn_word hfn] at hfo
    rw [fn_word hfn]
    have hfl : (fmt T1).length = (wdT T1).length + 1 + (TL.joinL [44, 32] ((args T1).map itemTx)).length + 1 := by rw [hfm]; simp; omega
    have hsum := lens_sum ((args T1).map itemTx)
    refine ⟨_, rfl, S (wdT T1), S [40], rfl, rfl, by (rw [S_len, S_len]; exact szL (by simp; omega)), ?_⟩
    rw [S_cat]
    refine ⟨⟨_, rfl⟩, _, rfl, _, rfl, S (wdT T1), _, rfl, rfl, hfo, r, us, _, rfl, SqL.of hr1, fun D hD => ?_⟩
    have hDr : D ≠ r := fun q => by rw [q, hr1] at hD; cases hD
    refine ⟨fun i m H' => m = us.length - i ∧ i ≤ us.length ∧ H' D = some (.lst (((args T1).take i).map fun g => V.str (S (itemTx g)))) ∧ Same H1 H', ⟨_, rfl, Nat.zero_le _, upd_same, Same.new hD⟩, ?_⟩
    rintro i m H2 ⟨rfl, hi, hD2, sm2⟩
    by_cases hlt : i < us.length
    · refine .inr ⟨⟨SqL.of (sm2 _ _ hr1), hlt, by simp; omega⟩, fun H' => H' D = some (.lst (((args T1).take (i + 1)).map fun g => V.str (S (itemTx g)))) ∧ Same H1 H', fun H' q => ⟨_, by omega, rfl, hlt, q⟩, ?_⟩
      rintro v H3 ⟨T5, y, c5, rfl, hT5, rfl, hy, hc5⟩
      obtain ⟨g, hg, hx⟩ := paired_get hargs hy
      have ec : c5 = sg g := by
        have q : ((args T1).map sg)[i]? = some c5 := by simpa using hc5
        rw [List.getElem?_map, hg] at q
        exact (Option.some.inj q).symm
      subst ec
      have hmem : g ∈ args T1 := List.mem_of_getElem? hg
      obtain ⟨ok1, hn1⟩ := fn_ok hfn ok g hmem
      have hgl := fn_len hfn g hmem
      have sm5 : Same H2 (upd H2 T5 (.tup [y, .str ⟨#[sg g]⟩])) := Same.new hT5
      refine ⟨T5, _, rfl, SqT.of upd_same, rfl, _, _, rfl, _, _, rfl, rfl, rfl, ?_⟩
      refine ⟨_, rfl, _, rfl, y, g, rfl, hx.kt ((sm1.trans sm2).trans sm5).kt, ok1, by omega, by omega, fun H6 sm6 => ⟨_, (sm5.trans sm6) _ _ hD2, ?_, ?_, ((sm2.trans sm5).trans sm6).aw hD⟩⟩
      · rw [List.length_map, List.length_take]
        exact szLt (by omega)
      · rw [upd_same, List.take_add_one, hg]
        simp
    · have hi2 : i = (args T1).length := by omega
      rw [hi2, List.take_length] at hD2
      refine .inl ⟨⟨SqL.of (sm2 _ _ hr1), .inl (by omega)⟩, S [44, 32], D, ((args T1).map itemTx).map S, rfl, rfl, .inl (SqL.of ?_), ?_, ?_⟩
      · rw [hD2, List.map_map, List.map_map]; rfl
      · have e : ((((args T1).map itemTx).map S).map (·.length)).sum = (((args T1).map itemTx).map (·.length)).sum := by
          rw [List.map_map]
          congr 1
        rw [e, S_len, List.length_map, List.length_map]
        have h3 : (((args T1).map itemTx).map (·.length)).sum ≤ (TL.joinL [44, 32] ((args T1).map itemTx)).length := hsum
        show _ + _ * 2 ≤ _
        omega
      · rw [join_S]
        refine ⟨_, _, rfl, rfl, by (rw [S_len, S_len]; exact szL (by simp; omega)), ?_⟩
        rw [S_cat]
        refine ⟨_, S [41], rfl, rfl, by (rw [S_len, S_len]; exact szL (by simp; omega)), ?_⟩
        rw [S_cat]
        exact fin_str (k1 _ (sm1.trans sm2)) (by rw [hfm]; simp)
  | false =>
  cases T1 with
  | name s =>
    obtain ⟨b', e, hb'⟩ := ht
    cases e
    rw [hb] at hb'
    cases hb'
    exact ifT rfl ⟨_, rfl, r, _, _, _, rfl, rfl, SqL.of hr1, at_of (j := 0) rfl rfl, k1 _ sm1⟩
  | list q =>
    obtain ⟨b', c, e, hb', hnq⟩ := ht
    cases e
    rw [hb] at hb'
    cases hb'
    refine ifF rfl ⟨_, rfl, rfl, _, rfl, ?_⟩
    rw [w_list]
    have hl2 : (numsTx q).length + 2 ≤ 1000 := by
      have : (fmt (.list q)).length = (numsTx q).length + 2 := by simp [fmt]
      omega
    have hql := nums_len q
    refine ifT rfl ⟨S [123], rfl, by (simp only [emp_cat, S_cat, S_len, List.length_append, List.length_cons, List.length_nil]; exact szL (by omega)), ?_⟩
    rw [emp_cat]
    refine ⟨_, rfl, r, _, _, _, rfl, rfl, SqL.of hr1, at_of (j := 0) rfl rfl, c, q, rfl, NumsT.kt sm1.kt hnq, fun q hq => (ok q hq).num, by omega, fun H2 sm2 => .inl ⟨_, rfl, by (simp only [emp_cat, S_cat, S_len, List.length_append, List.length_cons, List.length_nil]; exact szL (by omega)), _, rfl, by (simp only [emp_cat, S_cat, S_len, List.length_append, List.length_cons, List.length_nil]; exact szL (by omega)), ?_⟩⟩
    rw [S_cat]
    refine ⟨S [125], rfl, by (simp only [emp_cat, S_cat, S_len, List.length_append, List.length_cons, List.length_nil]; exact szL (by omega)), ?_⟩
    rw [S_cat]
    exact fin_str (k1 _ (sm1.trans sm2)) (by simp [fmt])
  | bin o x y =>
    obtain ⟨b', c, d, e, hb', hx, hy⟩ := ht
    cases e
    rw [hb] at hb'
    cases hb'
    refine ifF rfl ⟨_, rfl, rfl, _, rfl, ?_⟩
    rw [w_list]
    refine ifF rfl ⟨_, rfl, _, rfl, rfl, _, rfl, ?_⟩
    rw [w_pair]
    have ef : fmt (.bin o x y) = fmtw o.lev x ++ (32 :: o.sym :: 32 :: fmtw (o.lev + 1) y) := rfl
    rw [ef] at hl
    simp only [List.length_append, List.length_cons] at hl
    have hx1 := (fmtw_mono (Nat.le_refl o.lev) x).2.2
    have hy1 := (fmtw_mono (Nat.le_refl (o.lev + 1)) y).2.2
    have hnn : nodes (.bin o x y) = 1 + (nodes x + nodes y) := rfl
    refine ifT rfl ⟨_, rfl, bw o, _, rfl, rfl, bop_lev o, ?_⟩
    refine ⟨_, rfl, r, _, _, _, rfl, rfl, SqL.of hr1, at_of (j := 0) rfl rfl, _, rfl, c, x, o.lev, rfl, hx.kt sm1.kt, ok.1, by omega, by omega, fun H2 sm2 => .inl ⟨_, rfl, by (simp only [emp_cat, S_cat, S_len, List.length_append, List.length_cons, List.length_nil]; exact szL (by omega)), _, rfl, by (simp only [emp_cat, S_cat, S_len, List.length_append, List.length_cons, List.length_nil]; exact szL (by omega)), ?_⟩⟩
    rw [emp_cat]
    refine ⟨S [32], rfl, by (simp only [emp_cat, S_cat, S_len, List.length_append, List.length_cons, List.length_nil]; exact szL (by omega)), ?_⟩
    rw [S_cat]
    refine ⟨_, rfl, bw o, _, rfl, rfl, bop_sym o, .inl ⟨_, rfl, by (simp only [emp_cat, S_cat, S_len, List.length_append, List.length_cons, List.length_nil]; exact szL (by omega)), _, rfl, by (simp only [emp_cat, S_cat, S_len, List.length_append, List.length_cons, List.length_nil]; exact szL (by omega)), ?_⟩⟩
    rw [S_cat]
    refine ⟨S [32], rfl, by (simp only [emp_cat, S_cat, S_len, List.length_append, List.length_cons, List.length_nil]; exact szL (by omega)), ?_⟩
    rw [S_cat]
    have hr2 := sm2 _ _ hr1
    refine ⟨_, rfl, r, _, _, _, rfl, rfl, SqL.of hr2, at_of (j := 1) rfl rfl, _, rfl, _, _, rfl, rfl, d, y, o.lev + 1, rfl, hy.kt (sm1.trans sm2).kt, ok.2, by omega, by omega, fun H3 sm3 => .inl ⟨_, rfl, by (simp only [emp_cat, S_cat, S_len, List.length_append, List.length_cons, List.length_nil]; exact szL (by omega)), _, rfl, by (simp only [emp_cat, S_cat, S_len, List.length_append, List.length_cons, List.length_nil]; exact szL (by omega)), ?_⟩⟩
    rw [S_cat]
    exact fin_str (k1 _ ((sm1.trans sm2).trans sm3)) (by rw [ef]; simp)
  | neg x =>
    obtain ⟨b', c, e, hb', hx⟩ := ht
    cases e
    rw [hb] at hb'
    cases hb'
    refine ifF rfl ⟨_, rfl, rfl, _, rfl, ?_⟩
    rw [w_list]
    refine ifF rfl ⟨_, rfl, _, rfl, rfl, _, rfl, ?_⟩
    rw [w_pair]
    refine ifF rfl ⟨_, rfl, rfl, _, rfl, ?_⟩
    rw [w_neg]
    have ef : fmt (.neg x) = 45 :: fmtw 4 x := rfl
    rw [ef] at hl
    simp only [List.length_append, List.length_cons] at hl
    have hx1 := (fmtw_mono (Nat.le_refl 4) x).2.2
    have hnn : nodes (.neg x) = 1 + nodes x := rfl
    refine ifT rfl ⟨S [45], rfl, by (simp only [emp_cat, S_cat, S_len, List.length_append, List.length_cons, List.length_nil]; exact szL (by omega)), ?_⟩
    rw [emp_cat]
    refine ⟨_, rfl, r, _, _, _, rfl, rfl, SqL.of hr1, at_of (j := 0) rfl rfl, c, x, 4, rfl, hx.kt sm1.kt, ok, by omega, by omega, fun H2 sm2 => .inl ⟨_, rfl, by (simp only [emp_cat, S_cat, S_len, List.length_append, List.length_cons, List.length_nil]; exact szL (by omega)), _, rfl, by (simp only [emp_cat, S_cat, S_len, List.length_append, List.length_cons, List.length_nil]; exact szL (by omega)), ?_⟩⟩
    rw [S_cat]
    exact fin_str (k1 _ (sm1.trans sm2)) (by rw [ef]; simp)
  | pow x e =>
    obtain ⟨b', c, e', hb', hx⟩ := ht
    cases e'
    rw [hb] at hb'
    cases hb'
    refine ifF rfl ⟨_, rfl, rfl, _, rfl, ?_⟩
    rw [w_list]
    refine ifF rfl ⟨_, rfl, _, rfl, rfl, _, rfl, ?_⟩
    rw [w_pair]
    refine ifF rfl ⟨_, rfl, rfl, _, rfl, ?_⟩
    rw [w_neg]
    refine ifF rfl ⟨_, rfl, rfl, _, rfl, ?_⟩
    rw [w_pow]
    have ef : fmt (.pow x e) = fmtw 5 x ++ (32 :: 94 :: 32 :: numL e) := rfl
    rw [ef] at hl
    simp only [List.length_append, List.length_cons] at hl
    have hx1 := (fmtw_mono (Nat.le_refl 5) x).2.2
    have hnn : nodes (.pow x e) = 1 + nodes x := rfl
    refine ifT rfl ⟨_, rfl, r, _, _, _, rfl, rfl, SqL.of hr1, at_of (j := 0) rfl rfl, c, x, 5, rfl, hx.kt sm1.kt, ok.1, by omega, by omega, fun H2 sm2 => .inl ⟨_, rfl, by (simp only [emp_cat, S_cat, S_len, List.length_append, List.length_cons, List.length_nil]; exact szL (by omega)), _, rfl, by (simp only [emp_cat, S_cat, S_len, List.length_append, List.length_cons, List.length_nil]; exact szL (by omega)), ?_⟩⟩
    rw [emp_cat]
    refine ⟨S [32, 94, 32], rfl, by (simp only [emp_cat, S_cat, S_len, List.length_append, List.length_cons, List.length_nil]; exact szL (by omega)), ?_⟩
    rw [S_cat]
    refine ⟨_, rfl, r, _, _, _, rfl, rfl, SqL.of (sm2 _ _ hr1), at_of (j := 1) rfl rfl, .inr ⟨_, rfl, lg (Nat.lt_of_lt_of_le ok.2 (by decide +kernel)), _, rfl, by (rw [str_int, int_nat]; simp only [emp_cat, S_cat, S_len, List.length_append, List.length_cons, List.length_nil]; exact szL (by omega)), ?_⟩⟩
    rw [str_int, int_nat, S_cat]
    exact fin_str (k1 _ (sm1.trans sm2)) (by rw [ef]; simp)
  | _ => cases hfn
open D34 in
theorem c_format (T : Txt w K mg a) : ∀ n, Cal P w K mg base L2.CX0 (2 + 2 * n) "format_term" (spFmt n)
  | 0 => by
    refine cal0 (k := 1) T.d34 S (fun vs H Q E h => ?_) (fun _ _ _ _ _ _ us hl => match us, hl with | [_], _ => rfl) (fun f cdv A outer s H vs Q E hr h => ?_)
    · obtain ⟨u, _, rfl, _⟩ := h; rfl
    · obtain ⟨u, T1, rfl, _, _, h, _⟩ := h
      exfalso
      have := nodes_subs T1
      omega
  | n + 1 => by
    have c := c_format T n
    have c1 := c_wrapped T n _ c
    have h0 : 2 ≤ 2 + 2 * n := by omega
    have c2 := c_item_text T n (2 + 2 * n) h0 c
    have h2 : 2 ≤ 2 + 2 * n + 1 := by omega
    exact c_format_step T n (2 + 2 * n + 1) h2 c1 c2
end Rb
set_option maxRecDepth 100000
set_option maxHeartbeats 4000000
namespace Rb
open PySem PySem.Spec PyProof.Rows L2 SX RbR
open TL (numL)
variable {P : Program} {w : World} {K : PySem.W.Frag} {mg : Str → Option Value} {base : Heap} {a : Ads}
/-! ### what is drawn from -/
def Rng (H : Hp) (g : Addr × Addr) : Prop := ∃ (ns : List Int) (p : Nat) (b s : Int), H g.1 = some (.lst [.ref g.2, .int (p : Nat), .int b, .int s]) ∧ H g.2 = some (.lst (ns.map V.int))
theorem Rng.same {H H' : Hp} {g : Addr × Addr} (r : Rng H g) (s : Same H H') : Rng H' g := by
  obtain ⟨ns, p, b, q, h1, h2⟩ := r
  exact ⟨ns, p, b, q, s _ _ h1, s _ _ h2⟩
theorem Rng.lst {H : Hp} {g : Addr × Addr} (r : Rng H g) : ∃ xs, H g.1 = some (.lst xs) := by
  obtain ⟨ns, p, b, s, h, _⟩ := r
  exact ⟨_, h⟩
theorem But.ktL {x : Addr} {H H' : Hp} {xs : List V} (b : But x H H') (hx : H x = some (.lst xs)) : KT H H' := b.kt fun ys q => by rw [hx] at q; cases q
theorem But.ktR {g : Addr × Addr} {H H' : Hp} (b : But g.1 H H') (r : Rng H g) : KT H H' := by
  obtain ⟨xs, h⟩ := r.lst
  exact b.ktL h
theorem free_ne {H : Hp} {p : Addr} {g : Addr × Addr} (r : Rng H g) (h : H p = none) : p ≠ g.1 ∧ p ≠ g.2 := by
  obtain ⟨ns, q, b, s, e1, e2⟩ := r
  exact ⟨fun z => (by rw [z, e1] at h; cases h), fun z => (by rw [z, e2] at h; cases h)⟩
theorem Rng.other {H : Hp} {p : Addr} {g : Addr × Addr} {o : HO} (r : Rng H g) (h : p ≠ g.1 ∧ p ≠ g.2) : Rng (upd H p o) g := by
  obtain ⟨ns, q, b, s, e1, e2⟩ := r
  exact ⟨ns, q, b, s, by rw [upd_ne (Ne.symm h.1)]; exact e1, by rw [upd_ne (Ne.symm h.2)]; exact e2⟩
def spDraw : Sp := fun vs H Q _ => ∃ (g : Addr × Addr) (m : Nat), vs = [.ref g.1, .int (m : Nat)] ∧ 0 < m ∧ m < 1000000 ∧ Rng H g ∧ ∀ (r : Nat) H', r < m → But g.1 H H' → Rng H' g → Q (.int (r : Nat)) H'
namespace D37
abbrev ST : Stmt := top 37
abbrev NS : List Str := ["_law_rng", "_law_amount", "_law_cell", "_law_got", "_law_seed"]
theorem S : FnScope NS ["_law_rng", "_law_amount"] (defScope ST) := ⟨rfl, rfl, rfl, by decide +kernel, rfl, by decide +kernel, by decide +kernel⟩
end D37
theorem mod_nat (i : Int) (m : Nat) (h : 0 < m) : ∃ r : Nat, i % (m : Int) = (r : Nat) ∧ r < m := by
  have h1 := Int.emod_nonneg i (show (m : Int) ≠ 0 by omega)
  have h2 := Int.emod_lt_of_pos i (show (0 : Int) < m by omega)
  exact ⟨(i % (m : Int)).toNat, by omega, by omega⟩
open D37 in
theorem c__law_draw (T : Txt w K mg a) : Cal P w K mg base L2.CX0 1 "_law_draw" spDraw := by
  refine cal0 T.d37 S (fun vs H Q E h => ?_) (fun _ _ _ _ _ _ us hl => match us, hl with | [_, _], _ => rfl) (fun f cdv A outer s H vs Q E hr h => ?_)
  · obtain ⟨_, _, rfl, _⟩ := h; rfl
  obtain ⟨⟨g, L⟩, m, rfl, h0, hm, rn, k⟩ := h
  have k : ∀ (r : Nat) H', r < m → But g H H' → Rng H' (g, L) → Q (.int (r : Nat)) H' := k
  refine ⟨_, (C8.pss_cut (ps_if (PW.pt (pw_and (pt_cmpR op_eq (pe_ix ix_list (pv 0) pe_int (fun _ _ => rfl)) pe_int (nomark _)) (pw_and1 (pt_cmpR op_lt (pe_ix ix_list (pv 0) pe_int (fun _ _ => rfl)) (pe_callB call_len_seq rfl T.bLen (by decide +kernel) (pa_cons (pe_ix ix_list (pv 0) pe_int (fun _ _ => rfl)) pa_nil)) (nomark _)))))
    (pss_cons (ps_set (i := 2) S.nd rfl (Or.inl rfl) (pe_ix ix_list (pe_ix ix_list (pv 0) pe_int (fun _ _ => rfl)) (pe_ix ix_list (pv 0) pe_int (fun _ _ => rfl)) (fun _ _ => rfl)))
    (pss_cons (ps_asg (pe_op op_add (pe_ix ix_list (pv 0) pe_int (fun _ _ => rfl)) pe_int) (pg_sub (pv 0) pe_int set_list))
    (pss_one (ps_if (pt_cmpR op_ge (pv 2) (pe_op op_pow pe_int pe_int) (nomark _))
      (pss_one (ps_asg (pv 2) (pg_sub (pv 0) pe_int set_list)))
      (pss_one (ps_asg (pe_op op_mod (pe_op op_add (pe_op op_add (pe_op op_mul (pe_ix ix_list (pv 0) pe_int (fun _ _ => rfl)) pe_int) (pe_op op_mul (pe_op op_mod (pv 2) pe_int) pe_int)) pe_int) pe_int) (pg_sub (pv 0) pe_int set_list)))))))
    pss_nil)
  (pss_cons (ps_if (pt_cmpR op_gt (pe_ix ix_list (pv 0) pe_int (fun _ _ => rfl)) pe_int (nomark _))
    (pss_cons (ps_set (i := 3) S.nd rfl (Or.inl rfl) (pe_op op_mod (pe_ix ix_list (pv 0) pe_int (fun _ _ => rfl)) (pv 1)))
    (pss_cons (ps_asg (pe_op op_fdivW (pe_ix ix_list (pv 0) pe_int (fun _ _ => rfl)) (pv 1)) (pg_sub (pv 0) pe_int set_list))
    (pss_one (ps_ret (pv 3)))))
    pss_nil)
  (pss_cons (ps_set (i := 4) S.nd rfl (Or.inl rfl) (pe_ix ix_list (pv 0) pe_int (fun _ _ => rfl)))
  (pss_cons (ps_asg (pe_op op_mod (pe_op op_add (pe_op op_add (pe_op op_mul (pv 4) pe_int) (pe_op op_mul (pe_op op_fdivW (pv 4) pe_int) pe_int)) pe_int) pe_int) (pg_sub (pv 0) pe_int set_list))
  (pss_one (ps_ret (pe_op op_mod (pe_op op_add (pe_op op_fdivW (pe_ix ix_list (pv 0) pe_int (fun _ _ => rfl)) pe_int) (pe_op op_mul (pe_op op_mod (pe_ix ix_list (pv 0) pe_int (fun _ _ => rfl)) pe_int) pe_int)) (pv 1)))))))), ?_⟩
  have hz : ∃ (ns : List Int) (p : Nat) (b s : Int), H g = some (.lst [.ref L, .int (p : Nat), .int b, .int s]) ∧ H L = some (.lst (ns.map V.int)) := rn
  obtain ⟨ns, p, b, sd, hg, hL⟩ := hz
  have i0 := at_of (xs := [.ref L, .int (p : Nat), .int b, .int sd]) (z := 0) (j := 0) rfl rfl
  have i1 := at_of (xs := [.ref L, .int (p : Nat), .int b, .int sd]) (z := 1) (j := 1) rfl rfl
  have i2 := at_of (xs := [.ref L, .int (p : Nat), .int b, .int sd]) (z := 2) (j := 2) rfl rfl
  have mid : ∃ s2, ((L2.start NS [.ref g, .int (m : Nat)]).set 2 s2 = [some (.ref g), some (.int (m : Nat)), s2, none, none]) := ⟨none, rfl⟩
  refine ⟨fun σ' H' => ∃ s2, σ' = [some (.ref g), some (.int (m : Nat)), s2, none, none] ∧ But g H H' ∧ Rng H' (g, L), ?_, ?_⟩
  · refine ⟨_, rfl, g, _, _, _, rfl, rfl, SqL.of hg, i2, rfl, _, rfl, ?_⟩
    refine if2 (fun _ => ?_) (fun _ => ifF rfl ⟨none, rfl, But.refl g H, rn⟩)
    refine ⟨_, rfl, g, _, _, _, rfl, rfl, SqL.of hg, i1, _, rfl, g, _, _, _, rfl, rfl, SqL.of hg, i0, L, _, rfl, .inl (SqL.of hL), _, _, rfl, rfl, _, rfl, ?_⟩
    rw [List.length_map]
    refine if2 (fun hp => ?_) (fun _ => ⟨none, rfl, But.refl g H, rn⟩)
    have hp : p < ns.length := by have := of_decide_eq_true hp; omega
    refine ⟨_, rfl, g, _, _, _, rfl, rfl, SqL.of hg, i0, _, rfl, g, _, _, _, rfl, rfl, SqL.of hg, i1, L, _, _, .int ns[p], rfl, rfl, SqL.of hL, atI_nat (by rw [List.getElem?_map, List.getElem?_eq_getElem hp]; rfl), ?_⟩
    refine ⟨_, rfl, g, _, _, _, rfl, rfl, SqL.of hg, i1, _, _, rfl, rfl, _, rfl, g, _, _, 1, rfl, rfl, hg, rfl, ?_⟩
    have hLg : L ≠ g := fun q => by rw [q, hg] at hL; cases ns <;> cases hL
    generalize hH2 : upd H g (.lst ([V.ref L, V.int (p : Nat), V.int b, V.int sd].set 1 ((fun i j => V.int (i + j)) ((p : Nat) : Int) 1))) = H2
    have hg2 : H2 g = some (.lst [.ref L, .int ((p + 1 : Nat) : Int), .int b, .int sd]) := by rw [← hH2]; exact upd_same
    have b2 : But g H H2 := by rw [← hH2]; exact (But.refl g H).put
    have hL2 : H2 L = some (.lst (ns.map V.int)) := by rw [← hH2, upd_ne hLg]; exact hL
    refine ⟨_, rfl, _, _, rfl, rfl, ⟨by decide, by decide, by decide⟩, _, _, rfl, rfl, _, rfl, ?_⟩
    refine if2 (fun _ => ?_) (fun _ => ?_)
    · refine ⟨_, rfl, _, rfl, g, _, _, 2, rfl, rfl, hg2, rfl, _, rfl, b2.put, ns, p + 1, _, _, upd_same, by rw [upd_ne hLg]; exact hL2⟩
    · refine ⟨_, rfl, g, _, _, _, rfl, rfl, SqL.of hg2, at_of (j := 3) rfl rfl, _, _, rfl, rfl, .inr ⟨by decide, by decide⟩, _, rfl, _, _, rfl, rfl, (show (0 : Int) < 2147483579 by decide), _, _, rfl, rfl, .inr ⟨by decide, by decide⟩, _, _, rfl, rfl, _, _, rfl, rfl, _, _, rfl, rfl, (show (0 : Int) < 2147483647 by decide), ?_⟩
      refine ⟨_, rfl, g, _, _, 3, rfl, rfl, hg2, rfl, _, rfl, b2.put, ns, p + 1, _, _, upd_same, by rw [upd_ne hLg]; exact hL2⟩
  rintro σ1 H1 ⟨s2, rfl, b1, rn1⟩
  have hz : ∃ (ns : List Int) (p : Nat) (b s : Int), H1 g = some (.lst [.ref L, .int (p : Nat), .int b, .int s]) ∧ H1 L = some (.lst (ns.map V.int)) := rn1
  obtain ⟨ns, p, b, sd, hg, hL⟩ := hz
  have hLg : L ≠ g := fun q => by rw [q, hg] at hL; cases ns <;> cases hL
  have hmd : CDivW 0 (m : Int) := ⟨by omega, by
    have : (m : Int).natAbs = m := rfl
    rw [this]
    have : m.log2 < 20 := by
      rw [Nat.log2_lt (by omega)]; omega
    omega⟩
  refine ⟨_, rfl, g, _, _, _, rfl, rfl, SqL.of hg, at_of (j := 2) rfl rfl, _, _, rfl, rfl, _, rfl, ?_⟩
  refine if2 (fun _ => ?_) (fun _ => ?_)
  · refine ⟨_, rfl, g, _, _, _, rfl, rfl, SqL.of hg, at_of (j := 2) rfl rfl, _, rfl, _, _, rfl, rfl, by omega, ?_⟩
    refine ⟨_, rfl, g, _, _, _, rfl, rfl, SqL.of hg, at_of (j := 2) rfl rfl, _, rfl, _, _, rfl, rfl, hmd, _, rfl, g, _, _, 2, rfl, rfl, hg, rfl, _, rfl, ?_⟩
    obtain ⟨r, e, hr2⟩ := mod_nat b m h0
    have kk := k r _ hr2 (b1.put (o := .lst [.ref L, .int (p : Nat), .int (b / (m : Int)), .int sd])) ⟨ns, p, _, _, upd_same, by rw [upd_ne hLg]; exact hL⟩
    rw [← e] at kk
    exact kk
  · refine ⟨_, rfl, g, _, _, _, rfl, rfl, SqL.of hg, at_of (j := 3) rfl rfl, ?_⟩
    refine ⟨_, rfl, _, _, rfl, rfl, .inr ⟨by decide, by decide⟩, _, rfl, _, _, rfl, rfl, ⟨by decide, by decide⟩, _, _, rfl, rfl, .inr ⟨by decide, by decide⟩, _, _, rfl, rfl, _, _, rfl, rfl, _, _, rfl, rfl, (show (0 : Int) < 2147483647 by decide), _, rfl, g, _, _, 3, rfl, rfl, hg, rfl, ?_⟩
    have hm0 : (0 : Int) < (m : Int) := by omega
    refine ⟨_, rfl, g, _, _, _, rfl, rfl, SqL.of upd_same, at_of (j := 3) rfl rfl, _, _, rfl, rfl, ⟨by decide, by decide⟩, _, rfl, g, _, _, _, rfl, rfl, SqL.of upd_same, at_of (j := 3) rfl rfl, _, _, rfl, rfl, (show (0 : Int) < 8191 by decide), _, _, rfl, rfl, .inr ⟨by decide, by decide⟩, _, _, rfl, rfl, _, rfl, _, _, rfl, rfl, hm0, ?_⟩
    obtain ⟨r, e, hr2⟩ := mod_nat (((sd * 62089 + sd / 65543 * 37 + 1013904223) % 2147483647) / 89 + ((sd * 62089 + sd / 65543 * 37 + 1013904223) % 2147483647) % 8191 * 71) m h0
    have kk := k r _ hr2 (b1.put (o := .lst [.ref L, .int (p : Nat), .int b, .int ((sd * 62089 + sd / 65543 * 37 + 1013904223) % 2147483647)])) ⟨ns, p, _, _, upd_same, by rw [upd_ne hLg]; exact hL⟩
    rw [← e] at kk
    exact kk
end Rb
set_option maxRecDepth 100000
set_option maxHeartbeats 4000000
namespace Rb
open PySem PySem.Spec PyProof.Rows L2 SX RbR
open TL (numL)
variable {P : Program} {w : World} {K : PySem.W.Frag} {mg : Str → Option Value} {base : Heap} {a : Ads}
/-! ### one of some things -/
def spPick : Sp := fun vs H Q _ => ∃ (g : Addr × Addr) (t : Addr) (xs : List V), vs = [.ref g.1, .ref t] ∧ Rng H g ∧ H t = some (.lst xs) ∧ t ≠ g.1 ∧ 0 < xs.length ∧ xs.length < 1000 ∧ ∀ (r : Nat) v H', xs[r]? = some v → But g.1 H H' → Rng H' g → Q v H'
namespace D38
abbrev ST : Stmt := top 38
abbrev NS : List Str := ["_law_rng", "_law_things"]
theorem S : FnScope NS ["_law_rng", "_law_things"] (defScope ST) := ⟨rfl, rfl, rfl, by decide +kernel, rfl, by decide +kernel, by decide +kernel⟩
end D38
open D38 in
theorem c__law_pick (T : Txt w K mg a) : Cal P w K mg base L2.CX0 2 "_law_pick" spPick := by
  have c__law_draw := c__law_draw (P := P) (base := base) T
  refine cal0 T.d38 S (fun vs H Q E h => ?_) (fun _ _ _ _ _ _ us hl => match us, hl with | [_, _], _ => rfl) (fun f cdv A outer s H vs Q E hr h => ?_)
  · obtain ⟨_, _, _, rfl, _⟩ := h; rfl
  obtain ⟨g, t, xs, rfl, rn, ht, htg, h0, hl, k⟩ := h
  refine ⟨_, (pss_one (ps_ret (pe_ix ix_list (pv 1) (pe_k c__law_draw hr (by omega) rfl L2.pass0 (pa_cons (pv 0) (pa_cons (pe_callB call_len_seq rfl T.bLen (by decide +kernel) (pa_cons (pv 1) pa_nil)) pa_nil))) (fun _ _ => rfl)))), ?_⟩
  refine ⟨_, rfl, _, rfl, _, rfl, t, xs, rfl, .inl (SqL.of ht), g, xs.length, rfl, h0, by omega, rn, fun r H' hr' b rn' => ?_⟩
  obtain ⟨v, hv⟩ : ∃ v, xs[r]? = some v := ⟨xs[r], List.getElem?_eq_getElem hr'⟩
  exact ⟨t, xs, _, v, rfl, rfl, SqL.of (b _ _ htg ht), atI_nat hv, k r v H' hv b rn'⟩
/-! ### zeros at the end, again -/
def spLTrim : Sp := fun vs H Q _ => ∃ (l : Addr) (xs : List V) (qs : List Rt), vs = [.ref l] ∧ H l = some (.lst xs) ∧ RtsAt H xs qs ∧ qs.length ≤ 1000 ∧ ∀ H' l' us, Same H H' → H' l' = some (.lst us) → RtsAt H' us (trim qs) → Q (.ref l') H'
theorem atI_last {xs : List V} {n : Nat} {v : V} (h : xs.length = n + 1) (e : xs[n]? = some v) : atI xs (-1) = some v := by
  unfold atI ixN
  rw [if_neg (by decide), if_pos (by omega)]
  show xs[((-1 : Int) + xs.length).toNat]? = _
  rw [show ((-1 : Int) + xs.length).toNat = n by omega]
  exact e
namespace D43
abbrev ST : Stmt := top 43
abbrev NS : List Str := ["_law_parts_here", "_law_found"]
theorem S : FnScope NS ["_law_parts_here"] (defScope ST) := ⟨rfl, rfl, rfl, by decide +kernel, rfl, by decide +kernel, by decide +kernel⟩
end D43
open D43 in
theorem c__law_trim (T : Txt w K mg a) : Cal P w K mg base L2.CX0 1 "_law_trim" spLTrim := by
  refine cal0 T.d43 S (fun vs H Q E h => ?_) (fun _ _ _ _ _ _ us hl => match us, hl with | [_], _ => rfl) (fun f cdv A outer s H vs Q E hr h => ?_)
  · obtain ⟨l, xs, qs, rfl, _⟩ := h; rfl
  obtain ⟨l, xs, qs, rfl, hx, hq, hl, k⟩ := h
  refine ⟨_, (pss_cons (ps_set (i := 1) S.nd rfl (Or.inl rfl) (pe_callTy call_list_of rfl T.bLst (by decide +kernel) (pa_cons (pv 0) pa_nil)))
  (pss_cons (ps_while PassesOwn.never (PW.pt (pw_and (pt_cmpR (op_neL0 hr.units0) (pv 1) (pe_lst pa_nil) (nomark _)) (pw_and1 (pt_cmpR (op_eqD hr.units) (pe_ix ix_list (pv 1) (pe_un un_neg pe_int) (fun _ _ => rfl)) (pe_tup (pa_cons pe_int (pa_cons pe_int pa_nil))) (nomark _)))))
    (pss_one (ps_expr (pe_bm0 PySem.F.plainAttrs_list PySem.F.slot_list_pop PySem.F.type_list_pop mt_pop (pv 1)))))
  (pss_one (ps_ret (pv 1))))), ?_⟩
  have hlen := Paired.length hq
  refine ⟨_, rfl, l, xs, rfl, .inl (SqL.of hx), fun p hp => ?_⟩
  refine ⟨fun m σ H' => Same H H' ∧ m ≤ qs.length ∧ σ = [some (.ref l), some (.ref p)] ∧ trim qs = trim (qs.take m) ∧ H' p = some (.lst (xs.take m)), ⟨qs.length, Same.new hp, Nat.le_refl _, rfl, by rw [List.take_length], by rw [upd_same, ← hlen, List.take_length]⟩, ?_⟩
  rintro m σ H' ⟨sm, hm, rfl, e, hp'⟩
  have done : qs.take m = trim (qs.take m) → ∀ H2, Same H' H2 → Q (.ref p) H2 := fun e2 H2 sm2 => by
    refine k _ p _ (sm.trans sm2) (sm2 _ _ hp') ?_
    rw [e, ← e2]
    exact RtsAt.kt (sm.trans sm2).kt (rts_take m hq)
  refine ⟨_, rfl, by decide, fun e0 he0 => ⟨p, e0, _, rfl, rfl, by rw [upd_ne (ne_of_none hp' he0)]; exact hp', upd_same, _, rfl, ?_⟩⟩
  have sm1 : Same H' (upd H' e0 (.lst [])) := Same.new he0
  have hp1 := sm1 _ _ hp'
  generalize upd H' e0 (.lst []) = H1 at sm1 hp1
  cases m with
  | zero => exact ifF rfl (ifF rfl ⟨_, rfl, done rfl _ sm1⟩)
  | succ n =>
    have hn : n < qs.length := hm
    obtain ⟨y, hy⟩ : ∃ y, qs[n]? = some y := ⟨qs[n], List.getElem?_eq_getElem hn⟩
    obtain ⟨v, hv⟩ : ∃ v, xs[n]? = some v := ⟨xs[n]'(by omega), List.getElem?_eq_getElem (by omega)⟩
    obtain ⟨y', hy', hr'⟩ := rts_get hq hv
    rw [hy] at hy'
    cases hy'
    have hl1 : (xs.take (n + 1)).length = n + 1 := by rw [List.length_take]; omega
    have hv1 : (xs.take (n + 1))[n]? = some v := by rw [List.getElem?_take_of_lt (by omega)]; exact hv
    have emp : (xs.take (n + 1)).isEmpty = false := by
      cases q : xs.take (n + 1) with
      | nil => rw [q] at hl1; cases hl1
      | cons _ _ => rfl
    refine ifT (by rw [if_pos rfl, emp]; rfl) ⟨_, rfl, _, rfl, p, _, _, v, rfl, rfl, SqL.of hp1, atI_last hl1 hv1, by decide, fun t0 ht0 => ?_⟩
    have sm2 : Same H1 (upd H1 t0 (.tup [.int 0, .int 1])) := Same.new ht0
    refine ⟨_, .tuple [.int 0, .int 1], dp_rt (hr'.kt ((sm.trans sm1).trans sm2).kt), .tup (SqT.of upd_same) (.cons (.int _) (.cons (.int _) .nil)), rfl, rfl, _, rfl, ?_⟩
    have hp2 := sm2 _ _ hp1
    rw [eqv_rt y (0, 1)]
    by_cases hz : y = (0, 1)
    · refine ifT (decide_eq_true hz) ⟨fun σ' H2 => Same H H2 ∧ σ' = [some (.ref l), some (.ref p)] ∧ trim qs = trim (qs.take n) ∧ H2 p = some (.lst (xs.take n)), fun σ' H2 ⟨q1, q2, q3, q4⟩ => ⟨n, by omega, q1, by omega, q2, q3, q4⟩, ?_⟩
      refine ⟨_, rfl, .inl ⟨rfl, _, SqL.of hp2⟩, p, _, v, rfl, rfl, hp2, by rw [hl1]; exact hv1, ((sm.trans sm1).trans sm2).aw hp, rfl, ?_, ?_⟩
      · rw [e, take_snoc hy, hz, trim_zero]
      · rw [upd_same, take_snoc hv, List.dropLast_concat]
    · refine ifF (decide_eq_false hz) ⟨_, rfl, done ?_ _ (sm1.trans sm2)⟩
      rw [take_snoc hy, trim_last hz]
/-! ### a value -/
def RtSm (q : Rt) : Prop := RtOk q ∧ q.1.natAbs < 10 ^ 4 ∧ q.2.natAbs < 10 ^ 2
theorem RtSm.len {q : Rt} (h : RtSm q) : (numTx q).length ≤ 8 := by
  have := numTx_len h.2.1 h.2.2 (by decide) (by decide) h.1.1
  split at this <;> split at this <;> omega
theorem sm_one {i : Int} (h : i.natAbs < 10 ^ 4) : RtSm (i, 1) := by
  refine ⟨⟨(show (0 : Int) < 1 by decide), Int.gcd_one_right _, Nat.lt_of_lt_of_le h (Nat.pow_le_pow_right (by decide) (by decide)), (show (1 : Int).natAbs < 10 ^ 100 by decide +kernel)⟩, h, by show 1 < 10 ^ 2; decide⟩
theorem sm_low {x y : Int} (hy : 0 < y) (h : x.natAbs < 10 ^ 4) (h2 : y.natAbs < 10 ^ 2) : RtSm (low x y) := by
  obtain ⟨h1, h3, h4, _⟩ := low_ok hy h h2 (by decide) (by decide)
  exact ⟨h1, h3, h4⟩
def spVal : Sp := fun vs H Q _ => ∃ (g : Addr × Addr), vs = [.ref g.1] ∧ Rng H g ∧ ∀ H' u q, But g.1 H H' → Rng H' g → RtAt H' u q → RtSm q → Q u H'
namespace D44
abbrev ST : Stmt := top 44
abbrev NS : List Str := ["_law_rng", "_law_way"]
theorem S : FnScope NS ["_law_rng"] (defScope ST) := ⟨rfl, rfl, rfl, by decide +kernel, rfl, by decide +kernel, by decide +kernel⟩
end D44
open D44 in
theorem c__law_value (T : Txt w K mg a) : Cal P w K mg base L2.CX0 3 "_law_value" spVal := by
  have c__law_draw := c__law_draw (P := P) (base := base) T
  have c__law_low := c__law_low (P := P) (base := base) T
  refine cal0 T.d44 S (fun vs H Q E h => ?_) (fun _ _ _ _ _ _ us hl => match us, hl with | [_], _ => rfl) (fun f cdv A outer s H vs Q E hr h => ?_)
  · obtain ⟨_, rfl, _⟩ := h; rfl
  obtain ⟨g, rfl, rn, k⟩ := h
  refine ⟨_, (pss_cons (ps_set (i := 1) S.nd rfl (Or.inl rfl) (pe_k c__law_draw hr (by omega) rfl L2.pass0 (pa_cons (pv 0) (pa_cons pe_int pa_nil))))
  (pss_cons (ps_if (pt_cmpR op_lt (pv 1) pe_int (nomark _))
    (pss_one (ps_ret (pe_tup (pa_cons (pe_op op_sub (pe_k c__law_draw hr (by omega) rfl L2.pass0 (pa_cons (pv 0) (pa_cons pe_int pa_nil))) pe_int) (pa_cons pe_int pa_nil)))))
    pss_nil)
  (pss_cons (ps_if (pt_cmpR op_lt (pv 1) pe_int (nomark _))
    (pss_one (ps_ret (pe_k c__law_low hr (by omega) rfl L2.pass0 (pa_cons (pe_op op_sub (pe_k c__law_draw hr (by omega) rfl L2.pass0 (pa_cons (pv 0) (pa_cons pe_int pa_nil))) pe_int) (pa_cons (pe_op op_add pe_int (pe_k c__law_draw hr (by omega) rfl L2.pass0 (pa_cons (pv 0) (pa_cons pe_int pa_nil)))) pa_nil)))))
    pss_nil)
  (pss_one (ps_ret (pe_k c__law_low hr (by omega) rfl L2.pass0 (pa_cons (pe_op op_sub (pe_k c__law_draw hr (by omega) rfl L2.pass0 (pa_cons (pv 0) (pa_cons pe_int pa_nil))) pe_int) (pa_cons (pe_op op_add pe_int (pe_k c__law_draw hr (by omega) rfl L2.pass0 (pa_cons (pv 0) (pa_cons pe_int pa_nil)))) pa_nil)))))))), ?_⟩
  refine ⟨_, rfl, g, 8, rfl, by decide, by decide, rn, fun r1 H1 h1 b1 rn1 => ?_⟩
  refine ⟨_, rfl, _, _, rfl, rfl, _, rfl, ?_⟩
  refine if2 (fun _ => ?_) (fun _ => ⟨_, rfl, _, _, rfl, rfl, _, rfl, if2 (fun _ => ?_) (fun _ => ?_)⟩)
  · refine ⟨_, rfl, g, 9, rfl, by decide, by decide, rn1, fun r2 H2 h2 b2 rn2 => ⟨_, _, rfl, rfl, by show 2 ≤ sizeLine; decide, fun p hp => ?_⟩⟩
    exact k _ _ ((r2 : Int) - 4, 1) ((b1.trans b2).new hp) (rn2.same (Same.new hp)) ⟨p, rfl, upd_same⟩ (sm_one (by omega))
  · refine ⟨_, rfl, g, 9, rfl, by decide, by decide, rn1, fun r2 H2 h2 b2 rn2 => ⟨_, _, rfl, rfl, _, rfl, g, 3, rfl, by decide, by decide, rn2, fun r3 H3 h3 b3 rn3 => ⟨_, _, rfl, rfl, _, _, rfl, by omega, ?_, fun p hp => ?_⟩⟩⟩
    · exact Int.lt_of_lt_of_le (show (2 : Int) + r3 < 100 by omega) (by decide +kernel)
    · exact k _ _ (low ((r2 : Int) - 4) (2 + r3)) (((b1.trans b2).trans b3).new hp) (rn3.same (Same.new hp)) ⟨p, rfl, upd_same⟩ (sm_low (by omega) (by omega) (by omega))
  · refine ⟨_, rfl, g, 2001, rfl, by decide, by decide, rn1, fun r2 H2 h2 b2 rn2 => ⟨_, _, rfl, rfl, _, rfl, g, 12, rfl, by decide, by decide, rn2, fun r3 H3 h3 b3 rn3 => ⟨_, _, rfl, rfl, _, _, rfl, by omega, ?_, fun p hp => ?_⟩⟩⟩
    · exact Int.lt_of_lt_of_le (show (1 : Int) + r3 < 100 by omega) (by decide +kernel)
    · exact k _ _ (low ((r2 : Int) - 1000) (1 + r3)) (((b1.trans b2).trans b3).new hp) (rn3.same (Same.new hp)) ⟨p, rfl, upd_same⟩ (sm_low (by omega) (by omega) (by omega))
end Rb
set_option maxRecDepth 100000
set_option maxHeartbeats 4000000
namespace Rb
open PySem PySem.Spec PyProof.Rows L2 SX RbR
open TL (numL)
variable {P : Program} {w : World} {K : PySem.W.Frag} {mg : Str → Option Value} {base : Heap} {a : Ads}
/-! ### drawn trees: the plain side -/
def Dr (d : Nat) (T : Tm) : Prop := Ok T ∧ pd T ≤ d ∧ nodes T + 1 ≤ 2 ^ d ∧ (fmt T).length ≤ 60 * nodes T
def SmL (qs : List Rt) : Prop := ∀ q ∈ qs, RtSm q
theorem nums_sm {qs : List Rt} (h : SmL qs) : (numsTx qs).length ≤ qs.length * 10 := by
  have := joinL_len [44, 32] 8 (qs.map numTx) fun x hx => by
    obtain ⟨q, hq, rfl⟩ := List.mem_map.mp hx
    exact (h q hq).len
  rw [List.length_map] at this
  exact this
theorem pow1 {d : Nat} (h : 1 ≤ d) : 2 ≤ 2 ^ d := by
  have := Nat.pow_le_pow_right (show 0 < 2 by decide) h
  simpa using this
theorem dr_name {d : Nat} (h : 1 ≤ d) {s : Tx} (ok : NmOk s) : Dr d (.name s) := by
  have := pow1 h
  have h2 := ok.2.1
  exact ⟨ok, Nat.zero_le _, this, by show s.length ≤ 60 * 1; omega⟩
theorem dr_list {d : Nat} (h : 1 ≤ d) {qs : List Rt} (ok : SmL qs) (hl : qs.length ≤ 3) : Dr d (.list qs) := by
  have := pow1 h
  have h2 := nums_sm ok
  exact ⟨fun q hq => (ok q hq).1, Nat.zero_le _, this, by show (123 :: (numsTx qs ++ [125])).length ≤ 60 * 1; simp; omega⟩
theorem dr_roots {d : Nat} (h : 1 ≤ d) {qs : List Rt} (ok : SmL qs) (hl : qs.length ≤ 3) (hne : qs ≠ []) (ht : trim qs = qs) : Dr d (.roots qs) := by
  have := pow1 h
  have h2 := nums_sm ok
  exact ⟨⟨⟨fun q hq => (ok q hq).1, ht⟩, hne⟩, h, this, by show (wRoots ++ (40 :: 91 :: (numsTx qs ++ [93, 41]))).length ≤ 60 * 1; simp [wRoots]; omega⟩
theorem small_nu {n : Nat} (h : n < 100) : NuOk n ∧ (numL n).length ≤ 2 := ⟨Nat.lt_of_lt_of_le h (by decide +kernel), TL.numL_len (by decide) (by simpa using h)⟩
theorem dr_unity {d : Nat} (h : 1 ≤ d) {n : Nat} (hn : n < 100) : Dr d (.unity n) := by
  have := pow1 h
  obtain ⟨h1, h2⟩ := small_nu hn
  exact ⟨h1, h, this, by show (wUnity ++ (40 :: (numL n ++ [41]))).length ≤ 60 * 1; simp [wUnity]; omega⟩
theorem pd_le (l : Nat) (T : Tm) : pdI (decide (lev T < l)) (pd T) ≤ pd T + 1 := by
  unfold pdI
  split <;> omega
theorem wr_le (b : Bool) (t : Tx) : (wrapIf b t).length ≤ t.length + 2 := by
  unfold wrapIf
  split
  · simp
  · omega
theorem dr_bin {d : Nat} {o : Bop} {x y : Tm} (h1 : Dr d x) (h2 : Dr d y) : Dr (d + 1) (.bin o x y) := by
  obtain ⟨a1, a2, a3, a4⟩ := h1
  obtain ⟨b1, b2, b3, b4⟩ := h2
  refine ⟨⟨a1, b1⟩, ?_, ?_, ?_⟩
  · have := pd_le o.lev x
    have := pd_le (o.lev + 1) y
    exact Nat.max_le.mpr ⟨by omega, by omega⟩
  · show 1 + (nodes x + nodes y) + 1 ≤ _
    rw [Nat.pow_succ]; omega
  · show (wrapIf _ (fmt x) ++ (32 :: o.sym :: 32 :: wrapIf _ (fmt y))).length ≤ 60 * (1 + (nodes x + nodes y))
    have := wr_le (decide (lev x < o.lev)) (fmt x)
    have := wr_le (decide (lev y < o.lev + 1)) (fmt y)
    simp
    omega
theorem dr_one {d : Nat} {T x : Tm} (h : Dr d x) (ok : Ok T) (hp : pd T ≤ pd x + 1) (hn : nodes T = 1 + nodes x) (hl : (fmt T).length ≤ (fmt x).length + 60) : Dr (d + 1) T := by
  obtain ⟨a1, a2, a3, a4⟩ := h
  exact ⟨ok, by omega, by rw [hn, Nat.pow_succ]; omega, by rw [hn]; omega⟩
theorem dr_neg {d : Nat} {x : Tm} (h : Dr d x) : Dr (d + 1) (.neg x) := dr_one h h.1 (pd_le 4 x) rfl (by
  show (45 :: wrapIf _ (fmt x)).length ≤ _
  have := wr_le (decide (lev x < 4)) (fmt x)
  simp; omega)
theorem dr_dist {d : Nat} {x : Tm} (h : Dr d x) : Dr (d + 1) (.dist x) := dr_one h h.1 (Nat.le_refl _) rfl (by
  show (wDist ++ (40 :: (fmt x ++ [41]))).length ≤ _
  simp [wDist])
theorem dr_pow {d n : Nat} {x : Tm} (h : Dr d x) (hn : n < 100) : Dr (d + 1) (.pow x n) := dr_one h ⟨h.1, (small_nu hn).1⟩ (pd_le 5 x) rfl (by
  show (wrapIf _ (fmt x) ++ (32 :: 94 :: 32 :: numL n)).length ≤ _
  have := wr_le (decide (lev x < 5)) (fmt x)
  have := (small_nu hn).2
  simp; omega)
theorem dr_map {d : Nat} {x : Tm} {qs : List Rt} (h : Dr d x) (ok : SmL qs) (hl : qs.length ≤ 3) : Dr (d + 1) (.map (trim qs) x) := by
  obtain ⟨s, hs⟩ := trim_pre qs
  have ok2 : SmL (trim qs) := fun q hq => ok q (by rw [hs]; exact List.mem_append_left _ hq)
  have hl2 : (trim qs).length ≤ 3 := by
    have := congrArg List.length hs
    simp at this
    omega
  refine dr_one h ⟨⟨fun q hq => (ok2 q hq).1, trim_trim _⟩, h.1⟩ (Nat.le_refl _) rfl ?_
  show (wMap ++ (40 :: 91 :: (numsTx (trim qs) ++ (93 :: 44 :: 32 :: (fmt x ++ [41]))))).length ≤ _
  have := nums_sm ok2
  simp [wMap]; omega
theorem dr_sums {d n : Nat} {x : Tm} (h : Dr d x) (hn : n < 100) : Dr (d + 1) (.sums x n) ∧ Dr (d + 1) (.prods x n) := by
  have := (small_nu hn).2
  refine ⟨dr_one h ⟨h.1, (small_nu hn).1⟩ (Nat.le_refl _) rfl ?_, dr_one h ⟨h.1, (small_nu hn).1⟩ (Nat.le_refl _) rfl ?_⟩
  · show (wSums ++ (40 :: (fmt x ++ (44 :: 32 :: (numL n ++ [41]))))).length ≤ _
    simp [wSums]; omega
  · show (wProds ++ (40 :: (fmt x ++ (44 :: 32 :: (numL n ++ [41]))))).length ≤ _
    simp [wProds]; omega
theorem dr_comm {d : Nat} {x y : Tm} (h1 : Dr d x) (h2 : Dr d y) : Dr (d + 1) (.comm x y) ∧ Dr (d + 1) (.wout x y) := by
  obtain ⟨a1, a2, a3, a4⟩ := h1
  obtain ⟨b1, b2, b3, b4⟩ := h2
  have hp : max (pd x) (pd y) + 1 ≤ d + 1 := by
    have := Nat.max_le.mpr ⟨a2, b2⟩
    omega
  have hn : 1 + (nodes x + nodes y) + 1 ≤ 2 ^ (d + 1) := by rw [Nat.pow_succ]; omega
  refine ⟨⟨⟨a1, b1⟩, hp, hn, ?_⟩, ⟨⟨a1, b1⟩, hp, hn, ?_⟩⟩
  · show (wComm ++ (40 :: (fmt x ++ (44 :: 32 :: (fmt y ++ [41]))))).length ≤ 60 * (1 + (nodes x + nodes y))
    simp [wComm]; omega
  · show (wWout ++ (40 :: (fmt x ++ (44 :: 32 :: (fmt y ++ [41]))))).length ≤ 60 * (1 + (nodes x + nodes y))
    simp [wWout]; omega
theorem Dr.mono {d e : Nat} {T : Tm} (h : Dr d T) (hd : d ≤ e) : Dr e T := ⟨h.1, Nat.le_trans h.2.1 hd, Nat.le_trans h.2.2.1 (Nat.pow_le_pow_right (by decide) hd), h.2.2.2⟩
/-! ### a list of values -/
theorem vals_lc {g : Addr × Addr} {s1 s2 s3 s4 s5 s6 : Option V} {H1 : Hp} {r : Nat} {E : XK} {D : Addr} {Qd : Hp → Prop} (rn1 : Rng H1 g) (hm : r < 1000) (hD : H1 D = none)
    (k : ∀ us qs H', But g.1 H1 H' → Rng H' g → H' D = some (.lst us) → RtsAt H' us qs → SmL qs → qs.length = r → Qd H') :
    ∃ W : Nat → Nat → Hp → Prop, (∃ m, W 0 m (upd H1 D (.lst []))) ∧ ∀ i m H, W i m H →
      ((Itr 0 ((r : Nat) : Int).toNat).stop i H ∧ Qd H) ∨ ((Itr 0 ((r : Nat) : Int).toNat).go i H ∧ ∃ Nx : Hp → Prop, (∀ H', Nx H' → ∃ m', m' < m ∧ W (i + 1) m' H') ∧ ∀ x H', (Itr 0 ((r : Nat) : Int).toNat).yld i H x H' →
        gName 4 x (wipe [some (.ref g.1), s1, s2, s3, s4, s5, s6] [4]) H' fun σ2 H2 => wipe σ2 [4] = wipe [some (.ref g.1), s1, s2, s3, s4, s5, s6] [4] ∧ tYes σ2 H2 fun b H3 =>
          if b = true then tCall spVal [] E (tCons (tVar 0) tNil) σ2 H3 fun y H4 => ∃ acc, H4 D = some (.lst acc) ∧ acc.length < sizeLine ∧ Nx (upd H4 D (.lst (acc ++ [y]))) else Nx H3) := by
  have hDg := free_ne rn1 hD
  refine ⟨fun i n H' => n = r - i ∧ i ≤ r ∧ ∃ us qs, H' D = some (.lst us) ∧ RtsAt H' us qs ∧ us.length = i ∧ SmL qs ∧ But g.1 H1 H' ∧ Rng H' g, ⟨_, rfl, Nat.zero_le _, [], [], upd_same, .nil, rfl, (fun q hq => by cases hq), (But.refl g.1 H1).new hD, rn1.same (Same.new hD)⟩, ?_⟩
  rintro i n H2 ⟨rfl, hi, us, qs, hu, hq, hl, hs, b2, rn2⟩
  have hlen := Paired.length hq
  by_cases hlt : i < r
  · refine .inr ⟨by show i < _; omega, fun H' => ∃ us qs, H' D = some (.lst us) ∧ RtsAt H' us qs ∧ us.length = i + 1 ∧ SmL qs ∧ But g.1 H1 H' ∧ Rng H' g, fun H' q => ⟨_, by omega, rfl, hlt, q⟩, ?_⟩
    rintro x H3 ⟨rfl, rfl⟩
    refine ⟨rfl, _, rfl, g, rfl, rn2, fun H4 u q b4 rn4 hu4 hs4 => ?_⟩
    have hu3 := b4 _ _ hDg.1 hu
    have k5 : KT H3 (upd H4 D (.lst (us ++ [u]))) := fun b xs z => by
      rw [upd_ne (fun y => by rw [y, hu] at z; cases z)]
      exact b4.ktR rn2 _ _ z
    refine ⟨us, hu3, szLt (by omega), us ++ [u], qs ++ [q], upd_same, pa_app (Paired.mapP hq fun _ _ z => z.kt k5) (.cons (hu4.kt fun b xs z => ?_) .nil), by simp; omega, fun z hz => ?_, (b2.trans b4).aw hD, ?_⟩
    · rw [upd_ne (fun y => by rw [y, hu3] at z; cases z)]; exact z
    · rcases List.mem_append.mp hz with hz | hz
      · exact hs z hz
      · rw [List.mem_singleton.mp hz]; exact hs4
    · exact rn4.other hDg
  · have hi2 : i = r := by omega
    exact .inl ⟨by show _ ≤ i; omega, k us qs H2 b2 rn2 hu hq hs (by omega)⟩
end Rb
set_option maxRecDepth 100000
set_option maxHeartbeats 4000000
namespace Rb
open PySem PySem.Spec PyProof.Rows L2 SX RbR
open TL (numL)
variable {P : Program} {w : World} {K : PySem.W.Frag} {mg : Str → Option Value} {base : Heap} {a : Ads}
/-! ### the names, a drawn tree -/
def Nms (H : Hp) (nm : Addr) (names : List Tx) : Prop := H nm = some (.lst (names.map fun s => V.str (S s))) ∧ 0 < names.length ∧ names.length < 1000 ∧ ∀ s ∈ names, NmOk s
def spDTree (n : Nat) : Sp := fun vs H Q _ => ∃ (g : Addr × Addr) (d : Nat) (nm : Addr) (names : List Tx), vs = [.ref g.1, .int (d : Nat), .ref nm] ∧ 1 ≤ d ∧ d ≤ n ∧ Rng H g ∧ Nms H nm names ∧ nm ≠ g.1 ∧
  ∀ u T H', But g.1 H H' → Rng H' g → TreeAt H' u T → Dr d T → Q u H'
theorem bops_at {r : Nat} (h : r < 5) : ∃ o, ([V.str "join", .str "sum", .str "difference", .str "product", .str "quotient"])[r]? = some (V.str (bw o)) := by
  match r, h with
  | 0, _ => exact ⟨.join, rfl⟩
  | 1, _ => exact ⟨.sum, rfl⟩
  | 2, _ => exact ⟨.diff, rfl⟩
  | 3, _ => exact ⟨.prod, rfl⟩
  | 4, _ => exact ⟨.quot, rfl⟩
namespace D45
abbrev ST : Stmt := top 45
abbrev NS : List Str := ["_law_rng", "_law_deep", "_law_names", "_law_way", "_law_k", "_law_here", "_law_word"]
theorem S : FnScope NS ["_law_rng", "_law_deep", "_law_names"] (defScope ST) := ⟨rfl, rfl, rfl, by decide +kernel, rfl, by decide +kernel, by decide +kernel⟩
end D45
open D45 in
theorem c__law_tree_step (T : Txt w K mg a) (n k : Nat) (hk : 4 ≤ k) (c__law_tree : Cal P w K mg base L2.CX0 k "_law_tree" (spDTree n)) : Cal P w K mg base L2.CX0 (k + 1) "_law_tree" (spDTree (n + 1)) := by
  have c__law_draw := c__law_draw (P := P) (base := base) T
  have c__law_pick := c__law_pick (P := P) (base := base) T
  have c__law_value := c__law_value (P := P) (base := base) T
  have c__law_trim := c__law_trim (P := P) (base := base) T
  refine cal0 T.d45 S (fun vs H Q E h => ?_) (fun _ _ _ _ _ _ us hl => match us, hl with | [_, _, _], _ => rfl) (fun f cdv A outer s H vs Q E hr h => ?_)
  · obtain ⟨_, _, _, _, rfl, _⟩ := h; rfl
  obtain ⟨g, d, nm, names, rfl, hd1, hdn, rn, hnm, hne, k0⟩ := h
  refine ⟨_, (C8.pss_cut (ps_set (i := 3) S.nd rfl (Or.inl rfl) (pe_ifExp (pt_cmpR op_gt (pv 1) pe_int (nomark _)) (pe_k c__law_draw hr (by omega) rfl L2.pass0 (pa_cons (pv 0) (pa_cons pe_int pa_nil))) (pe_k c__law_draw hr (by omega) rfl L2.pass0 (pa_cons (pv 0) (pa_cons pe_int pa_nil)))))
  (pss_cons (ps_if (pt_cmpR op_lt (pv 3) pe_int (nomark _))
    (pss_one (ps_ret (pe_tup (pa_cons pe_str (pa_cons (pe_k c__law_pick hr (by omega) rfl L2.pass0 (pa_cons (pv 0) (pa_cons (pv 2) pa_nil))) pa_nil)))))
    pss_nil)
  (pss_cons (ps_if (pt_cmpR op_eq (pv 3) pe_int (nomark _))
    (pss_one (ps_ret (pe_tup (pa_cons pe_str (pa_cons (pe_callTy call_tuple_of rfl T.bTup (by decide +kernel) (pa_cons (pe_lc (own := [("_law_k", 4)]) (g := (gName 4)) (tt := tYes) rfl S.nd (pi_range1 rfl T.bRng (pa_cons (pe_k c__law_draw hr (by omega) rfl L2.pass0 (pa_cons (pv 0) (pa_cons pe_int pa_nil))) pa_nil)) (blkOk_by (N := NS) (sc := defScope ST) (by decide +kernel)) (fun _ _ _ _ _ => pg_name (i := 4) S.nd rfl (Or.inl rfl)) (fun _ _ _ _ _ => pts_nil) (fun _ _ _ _ _ => (pe_k c__law_value hr (by omega) rfl L2.pass0 (pa_cons (pv 0) pa_nil)))) pa_nil)) pa_nil)))))
    pss_nil)
  (pss_cons (ps_if (pt_cmpR op_eq (pv 3) pe_int (nomark _))
    (pss_cons (ps_if (pt_cmpR op_eq (pe_k c__law_draw hr (by omega) rfl L2.pass0 (pa_cons (pv 0) (pa_cons pe_int pa_nil))) pe_int (nomark _))
      (pss_one (ps_ret (pe_tup (pa_cons pe_str (pa_cons (pe_k c__law_draw hr (by omega) rfl L2.pass0 (pa_cons (pv 0) (pa_cons pe_int pa_nil))) pa_nil)))))
      pss_nil)
    (pss_one (ps_ret (pe_tup (pa_cons pe_str (pa_cons (pe_callTy call_tuple_of rfl T.bTup (by decide +kernel) (pa_cons (pe_op op_cat (pe_lc (own := [("_law_k", 4)]) (g := (gName 4)) (tt := tYes) rfl S.nd (pi_range1 rfl T.bRng (pa_cons (pe_k c__law_draw hr (by omega) rfl L2.pass0 (pa_cons (pv 0) (pa_cons pe_int pa_nil))) pa_nil)) (blkOk_by (N := NS) (sc := defScope ST) (by decide +kernel)) (fun _ _ _ _ _ => pg_name (i := 4) S.nd rfl (Or.inl rfl)) (fun _ _ _ _ _ => pts_nil) (fun _ _ _ _ _ => (pe_k c__law_value hr (by omega) rfl L2.pass0 (pa_cons (pv 0) pa_nil)))) (pe_lst (pa_cons (pe_tup (pa_cons (pe_op op_add pe_int (pe_k c__law_draw hr (by omega) rfl L2.pass0 (pa_cons (pv 0) (pa_cons pe_int pa_nil)))) (pa_cons pe_int pa_nil))) pa_nil))) pa_nil)) pa_nil))))))
    pss_nil)
  (pss_cons (ps_set (i := 5) S.nd rfl (Or.inl rfl) (pe_k c__law_tree hr (by omega) rfl L2.pass0 (pa_cons (pv 0) (pa_cons (pe_op op_sub (pv 1) pe_int) (pa_cons (pv 2) pa_nil)))))
  (pss_cons (ps_if (pt_cmpR op_lt (pv 3) pe_int (nomark _))
    (pss_cons (ps_set (i := 6) S.nd rfl (Or.inl rfl) (pe_ix ix_list (pe_lst (pa_cons pe_str (pa_cons pe_str (pa_cons pe_str (pa_cons pe_str (pa_cons pe_str pa_nil)))))) (pe_op op_sub (pv 3) pe_int) (fun _ _ => rfl)))
    (pss_one (ps_ret (pe_tup (pa_cons (pv 6) (pa_cons (pv 5) (pa_cons (pe_k c__law_tree hr (by omega) rfl L2.pass0 (pa_cons (pv 0) (pa_cons (pe_op op_sub (pv 1) pe_int) (pa_cons (pv 2) pa_nil)))) pa_nil)))))))
    pss_nil)
  (pss_cons (ps_if (pt_cmpR op_eq (pv 3) pe_int (nomark _))
    (pss_one (ps_ret (pe_k c__law_pick hr (by omega) rfl L2.pass0 (pa_cons (pv 0) (pa_cons (pe_lst (pa_cons (pe_tup (pa_cons pe_str (pa_cons (pv 5) pa_nil))) (pa_cons (pe_tup (pa_cons pe_str (pa_cons (pv 5) pa_nil))) pa_nil))) pa_nil)))))
    pss_nil)
  (pss_cons (ps_if (pt_cmpR op_eq (pv 3) pe_int (nomark _))
    (pss_one (ps_ret (pe_tup (pa_cons pe_str (pa_cons (pv 5) (pa_cons (pe_k c__law_draw hr (by omega) rfl L2.pass0 (pa_cons (pv 0) (pa_cons pe_int pa_nil))) pa_nil))))))
    pss_nil)
  (pss_cons (ps_if (pt_cmpR op_eq (pv 3) pe_int (nomark _))
    (pss_one (ps_ret (pe_tup (pa_cons pe_str (pa_cons (pe_callTy call_tuple_of rfl T.bTup (by decide +kernel) (pa_cons (pe_k c__law_trim hr (by omega) rfl L2.pass0 (pa_cons (pe_lc (own := [("_law_k", 4)]) (g := (gName 4)) (tt := tYes) rfl S.nd (pi_range1 rfl T.bRng (pa_cons (pe_k c__law_draw hr (by omega) rfl L2.pass0 (pa_cons (pv 0) (pa_cons pe_int pa_nil))) pa_nil)) (blkOk_by (N := NS) (sc := defScope ST) (by decide +kernel)) (fun _ _ _ _ _ => pg_name (i := 4) S.nd rfl (Or.inl rfl)) (fun _ _ _ _ _ => pts_nil) (fun _ _ _ _ _ => (pe_k c__law_value hr (by omega) rfl L2.pass0 (pa_cons (pv 0) pa_nil)))) pa_nil)) pa_nil)) (pa_cons (pv 5) pa_nil))))))
    pss_nil)
  (pss_cons (ps_if (pt_cmpR op_eq (pv 3) pe_int (nomark _))
    (pss_one (ps_ret (pe_tup (pa_cons (pe_k c__law_pick hr (by omega) rfl L2.pass0 (pa_cons (pv 0) (pa_cons (pe_lst (pa_cons pe_str (pa_cons pe_str pa_nil))) pa_nil))) (pa_cons (pv 5) (pa_cons (pe_k c__law_draw hr (by omega) rfl L2.pass0 (pa_cons (pv 0) (pa_cons pe_int pa_nil))) pa_nil))))))
    pss_nil)
  (pss_one (ps_ret (pe_tup (pa_cons (pe_k c__law_pick hr (by omega) rfl L2.pass0 (pa_cons (pv 0) (pa_cons (pe_lst (pa_cons pe_str (pa_cons pe_str pa_nil))) pa_nil))) (pa_cons (pv 5) (pa_cons (pe_k c__law_tree hr (by omega) rfl L2.pass0 (pa_cons (pv 0) (pa_cons (pe_op op_sub (pv 1) pe_int) (pa_cons (pv 2) pa_nil)))) pa_nil)))))))))))))))), ?_⟩
  refine ⟨fun σ' H' => ∃ r : Nat, σ' = [some (.ref g.1), some (.int (d : Nat)), some (.ref nm), some (.int (r : Nat)), none, none, none] ∧ r < 14 ∧ (d = 1 → r < 4) ∧ But g.1 H H' ∧ Rng H' g, ?_, ?_⟩
  · refine ⟨_, rfl, _, _, rfl, rfl, _, rfl, ?_⟩
    by_cases h1 : d = 1
    · refine ifF (decide_eq_false (by omega)) ⟨_, rfl, g, 4, rfl, by decide, by decide, rn, fun r H1 hr b1 rn1 => ⟨r, rfl, by omega, fun _ => hr, b1, rn1⟩⟩
    · refine ifT (decide_eq_true (by omega)) ⟨_, rfl, g, 14, rfl, by decide, by decide, rn, fun r H1 hr b1 rn1 => ⟨r, rfl, hr, fun z => (h1 z).elim, b1, rn1⟩⟩
  rintro σ1 H1 ⟨r, rfl, hr14, hr4, b1, rn1⟩
  have hnm1 : H1 nm = some (.lst (names.map fun s => V.str (S s))) := b1 _ _ hne hnm.1
  have two : (2 : Nat) ≤ sizeLine := by decide
  have three : (3 : Nat) ≤ sizeLine := by decide
  refine ⟨_, rfl, _, _, rfl, rfl, _, rfl, ?_⟩
  by_cases h2 : r < 2
  · refine ifT (decide_eq_true (by omega)) ⟨_, rfl, _, rfl, g, nm, _, rfl, rn1, hnm1, hne, by rw [List.length_map]; exact hnm.2.1, by rw [List.length_map]; exact hnm.2.2.1, fun i v H2 hv b2 rn2 => ⟨two, fun q hq => ?_⟩⟩
    rw [List.getElem?_map] at hv
    cases hs : names[i]? with
    | none => rw [hs] at hv; cases hv
    | some s0 =>
      rw [hs] at hv
      cases hv
      exact k0 _ (.name s0) _ ((b1.trans b2).new hq) (rn2.same (Same.new hq)) ⟨q, rfl, upd_same⟩ (dr_name hd1 (hnm.2.2.2 s0 (List.mem_of_getElem? hs)))
  refine ifF (decide_eq_false (by omega)) ⟨_, rfl, rfl, _, rfl, ?_⟩
  by_cases h3 : r = 2
  · refine ifT (deI (by omega)) ⟨_, rfl, g, 4, rfl, by decide, by decide, rn1, fun r2 H2 hr2 b2 rn2 => ⟨_, rfl, by omega, by omega, fun D hD0 => vals_lc rn2 (by omega) hD0 fun us qs H3 b3 rn3 hD hq hs hl => ⟨D, us, rfl, .inl ⟨SqL.of hD, fun l hl0 => ⟨two, fun q hq0 => ?_⟩⟩⟩⟩⟩
    have sm : Same H3 (upd (upd H3 l (.tup us)) q (.tup [.str "list", .ref l])) := (Same.new hl0).trans (Same.new hq0)
    exact k0 _ (.list qs) _ (((b1.trans b2).trans b3).same sm) (rn3.same sm) ⟨q, .ref l, rfl, upd_same, l, us, rfl, (Same.new hq0) _ _ upd_same, RtsAt.kt sm.kt hq⟩ (dr_list hd1 hs (by omega))
  refine ifF (dnI (by omega)) ⟨_, rfl, rfl, _, rfl, ?_⟩
  by_cases h4 : r = 3
  · refine ifT (deI (by omega)) ⟨_, rfl, g, 3, rfl, by decide, by decide, rn1, fun r2 H2 hr2 b2 rn2 => ⟨rfl, _, rfl, if2 (fun _ => ?_) (fun _ => ?_)⟩⟩
    · refine ⟨_, rfl, g, 13, rfl, by decide, by decide, rn2, fun r3 H3 hr3 b3 rn3 => ⟨two, fun q hq => ?_⟩⟩
      exact k0 _ (.unity r3) _ (((b1.trans b2).trans b3).new hq) (rn3.same (Same.new hq)) ⟨q, rfl, upd_same⟩ (dr_unity hd1 (by omega))
    · refine ⟨_, rfl, g, 3, rfl, by decide, by decide, rn2, fun r3 Hy hr3 by3 ry3 => ⟨_, rfl, by omega, by omega, fun D hD0 => vals_lc ry3 (by omega) hD0 fun us qs H3 bz3 rn3 hD hq hs hl => ?_⟩⟩
      have hDg := free_ne ry3 hD0
      have b3 := by3.trans bz3
      refine ⟨_, rfl, g, 3, rfl, by decide, by decide, rn3, fun r4 H4 hr4' b4 rn4 => ⟨_, _, rfl, rfl, two, fun t ht => ⟨(show 1 ≤ sizeLine by decide), fun l2 hl2 => ?_⟩⟩⟩
      have sm5 : Same H4 (upd (upd H4 t (.tup [.int (1 + (r4 : Nat)), .int 1])) l2 (.lst [.ref t])) := (Same.new ht).trans (Same.new hl2)
      have hl2e : (upd (upd H4 t (.tup [.int (1 + (r4 : Nat)), .int 1])) l2 (.lst [.ref t])) l2 = some (.lst [.ref t]) := upd_same
      have hte : (upd (upd H4 t (.tup [.int (1 + (r4 : Nat)), .int 1])) l2 (.lst [.ref t])) t = some (.tup [.int (1 + (r4 : Nat)), .int 1]) := (Same.new hl2) _ _ upd_same
      refine ⟨D, l2, us, [.ref t], rfl, rfl, sm5 _ _ (b4 _ _ hDg.1 hD), hl2e, ?_, fun c hc => ⟨c, _, rfl, .inl ⟨SqL.of upd_same, fun l hl0 => ⟨two, fun q hq0 => ?_⟩⟩⟩⟩
      · have := Paired.length hq
        exact szL (by simp; omega)
      have hq4 : RtsAt (upd (upd H4 t (.tup [.int (1 + (r4 : Nat)), .int 1])) l2 (.lst [.ref t])) (us ++ [.ref t]) (qs ++ [((1 : Int) + (r4 : Nat), 1)]) :=
        pa_app (RtsAt.kt ((b4.ktR rn3).trans sm5.kt) hq) (.cons ⟨t, rfl, hte⟩ .nil)
      have bb := (((b1.trans b2).trans b3).trans b4).same sm5
      have rr := rn4.same sm5
      generalize upd (upd H4 t (.tup [.int (1 + (r4 : Nat)), .int 1])) l2 (.lst [.ref t]) = H5 at hc hl0 hq0 hq4 bb rr
      have sm : Same H5 (upd (upd (upd H5 c (.lst (us ++ [.ref t]))) l (.tup (us ++ [.ref t]))) q (.tup [.str "roots", .ref l])) := ((Same.new hc).trans (Same.new hl0)).trans (Same.new hq0)
      refine k0 _ (.roots (qs ++ [((1 : Int) + (r4 : Nat), 1)])) _ (bb.same sm) (rr.same sm) ⟨q, .ref l, rfl, upd_same, l, _, rfl, (Same.new hq0) _ _ upd_same, RtsAt.kt sm.kt hq4⟩ (dr_roots hd1 (fun z hz => ?_) (by simp; omega) (by simp) (trim_last (fun z => ?_) _))
      · rcases List.mem_append.mp hz with hz | hz
        · exact hs z hz
        · rw [List.mem_singleton.mp hz]; exact sm_one (by omega)
      · have := congrArg Prod.fst z
        have h0 : (1 : Int) + (r4 : Nat) = 0 := this
        omega
  refine ifF (dnI (by omega)) ?_
  obtain ⟨e, rfl⟩ : ∃ e, d = e + 1 := ⟨d - 1, by omega⟩
  have he : 1 ≤ e := by
    rcases Nat.lt_or_ge 0 e with h | h
    · exact h
    · have := hr4 (by omega); omega
  have ed : ((e + 1 : Nat) : Int) - 1 = (e : Nat) := by omega
  have el : ([V.ref g.1, (fun i j => V.int (i - j)) ((e + 1 : Nat) : Int) 1, V.ref nm] ++ [] : List V) = [V.ref g.1, V.int (e : Nat), V.ref nm] := by
    show [V.ref g.1, V.int (((e + 1 : Nat) : Int) - 1), V.ref nm] = _
    rw [ed]
  refine ⟨_, rfl, _, rfl, _, _, rfl, rfl, _, rfl, g, e, nm, names, el, he, by omega, rn1, ⟨hnm1, hnm.2⟩, hne, fun ux x H2 b2 rn2 hx hxd => ?_⟩
  have hnm2 : H2 nm = some (.lst (names.map fun s => V.str (S s))) := b2 _ _ hne hnm1
  have b12 := b1.trans b2
  refine ⟨_, rfl, _, _, rfl, rfl, _, rfl, ?_⟩
  by_cases h9 : r < 9
  · obtain ⟨o, ho⟩ := bops_at (r := r - 4) (by omega)
    refine ifT (decide_eq_true (by omega)) ⟨by decide, fun l hl => ⟨_, rfl, _, _, rfl, rfl, l, _, _, _, rfl, rfl, SqL.of upd_same, at_of (j := r - 4) (by omega) ho, ?_⟩⟩
    have sm3 : Same H2 (upd H2 l (.lst [V.str "join", .str "sum", .str "difference", .str "product", .str "quotient"])) := Same.new hl
    refine ⟨_, rfl, _, rfl, _, rfl, _, rfl, _, _, rfl, rfl, _, rfl, g, e, nm, names, el, he, by omega, rn2.same sm3, ⟨sm3 _ _ hnm2, hnm.2⟩, hne, fun uy y H4 b4 rn4 hy hyd => ⟨three, fun q hq => ?_⟩⟩
    have hx4 := (hx.kt sm3.kt).kt (b4.ktR (rn2.same sm3))
    exact k0 _ (.bin o x y) _ (((b12.same sm3).trans b4).new hq) (rn4.same (Same.new hq)) ⟨q, ux, uy, rfl, upd_same, hx4.kt (Same.new hq).kt, hy.kt (Same.new hq).kt⟩ (dr_bin hxd hyd)
  refine ifF (decide_eq_false (by omega)) ⟨_, rfl, rfl, _, rfl, ?_⟩
  by_cases h10 : r = 9
  · refine ifT (deI (by omega)) ⟨_, rfl, _, rfl, two, fun t1 ht1 => ⟨_, rfl, two, fun t2 ht2 => ⟨two, fun l hl => ?_⟩⟩⟩
    have sm5 : Same H2 (upd (upd (upd H2 t1 (.tup [.str "negative", ux])) t2 (.tup [.str "distinct", ux])) l (.lst [.ref t1, .ref t2])) := ((Same.new ht1).trans (Same.new ht2)).trans (Same.new hl)
    have e1 : (upd (upd (upd H2 t1 (.tup [.str "negative", ux])) t2 (.tup [.str "distinct", ux])) l (.lst [.ref t1, .ref t2])) t1 = some (.tup [.str "negative", ux]) := (Same.new hl) _ _ ((Same.new ht2) _ _ upd_same)
    have e2 : (upd (upd (upd H2 t1 (.tup [.str "negative", ux])) t2 (.tup [.str "distinct", ux])) l (.lst [.ref t1, .ref t2])) t2 = some (.tup [.str "distinct", ux]) := (Same.new hl) _ _ upd_same
    have e3 : (upd (upd (upd H2 t1 (.tup [.str "negative", ux])) t2 (.tup [.str "distinct", ux])) l (.lst [.ref t1, .ref t2])) l = some (.lst [.ref t1, .ref t2]) := upd_same
    have hlg : l ≠ g.1 := (free_ne (rn2.same ((Same.new ht1).trans (Same.new ht2))) hl).1
    generalize upd (upd (upd H2 t1 (.tup [.str "negative", ux])) t2 (.tup [.str "distinct", ux])) l (.lst [.ref t1, .ref t2]) = H5 at sm5 e1 e2 e3
    have rn5 := rn2.same sm5
    refine ⟨g, l, _, rfl, rn5, e3, hlg, (show 0 < 2 by decide), (show 2 < 1000 by decide), fun i v H6 hv b6 rn6 => ?_⟩
    have k6 := b6.ktR rn5
    have hx6 := (hx.kt sm5.kt).kt k6
    match i, hv with
    | 0, hv =>
      cases hv
      exact k0 _ (.neg x) _ ((b12.same sm5).trans b6) rn6 ⟨t1, ux, rfl, k6 _ _ e1, hx6⟩ (dr_neg hxd)
    | 1, hv =>
      cases hv
      exact k0 _ (.dist x) _ ((b12.same sm5).trans b6) rn6 ⟨t2, ux, rfl, k6 _ _ e2, hx6⟩ (dr_dist hxd)
    | i + 2, hv => cases hv
  refine ifF (dnI (by omega)) ⟨_, rfl, rfl, _, rfl, ?_⟩
  by_cases h11 : r = 10
  · refine ifT (deI (by omega)) ⟨_, rfl, _, rfl, g, 19, rfl, by decide, by decide, rn2, fun r3 H3 hr3 b3 rn3 => ⟨three, fun q hq => ?_⟩⟩
    exact k0 _ (.pow x r3) _ ((b12.trans b3).new hq) (rn3.same (Same.new hq)) ⟨q, ux, rfl, upd_same, (hx.kt (b3.ktR rn2)).kt (Same.new hq).kt⟩ (dr_pow hxd (by omega))
  refine ifF (dnI (by omega)) ⟨_, rfl, rfl, _, rfl, ?_⟩
  by_cases h12 : r = 11
  · refine ifT (deI (by omega)) ⟨_, rfl, g, 4, rfl, by decide, by decide, rn2, fun r3 Hy hr3 by3 ry3 => ⟨_, rfl, by omega, by omega, fun D hD0 => vals_lc ry3 (by omega) hD0 fun us qs H3 bz3 rn3 hD hq hs hl => ⟨D, us, qs, rfl, hD, hq, by omega, fun H4 l' us' sm4 hl' hq' => ⟨l', us', rfl, .inl ⟨SqL.of hl', fun l hl0 => ⟨_, rfl, three, fun q hq0 => ?_⟩⟩⟩⟩⟩⟩
    have b3 := by3.trans bz3
    have sm : Same H4 (upd (upd H4 l (.tup us')) q (.tup [.str "map", .ref l, ux])) := (Same.new hl0).trans (Same.new hq0)
    have hx4 := (hx.kt (b3.ktR rn2)).kt (sm4.trans sm).kt
    exact k0 _ (.map (trim qs) x) _ ((b12.trans b3).same (sm4.trans sm)) (rn3.same (sm4.trans sm)) ⟨q, .ref l, ux, rfl, upd_same, ⟨l, us', rfl, (Same.new hq0) _ _ upd_same, RtsAt.kt sm.kt hq'⟩, hx4⟩ (dr_map hxd hs (by omega))
  refine ifF (dnI (by omega)) ⟨_, rfl, rfl, _, rfl, ?_⟩
  by_cases h13 : r = 12
  · refine ifT (deI (by omega)) ⟨_, rfl, by decide, fun l hl => ⟨g, l, _, rfl, rn2.same (Same.new hl), upd_same, (free_ne rn2 hl).1, by decide, by decide, fun i v H3 hv b3 rn3 => ⟨_, rfl, _, rfl, g, 5, rfl, by decide, by decide, rn3, fun r4 H4 hr4' b4 rn4 => ⟨three, fun q hq => ?_⟩⟩⟩⟩
    have rl := rn2.same (Same.new (o := .lst [V.str "sums", .str "products"]) hl)
    have b3' : But g.1 H2 H3 := ((But.refl g.1 H2).new hl).trans b3
    have hx4 := (hx.kt (b3'.ktR rn2)).kt (b4.ktR rn3)
    match i, hv with
    | 0, hv =>
      cases hv
      exact k0 _ (.sums x r4) _ (((b12.trans b3').trans b4).new hq) (rn4.same (Same.new hq)) ⟨q, ux, rfl, upd_same, hx4.kt (Same.new hq).kt⟩ (dr_sums hxd (by omega)).1
    | 1, hv =>
      cases hv
      exact k0 _ (.prods x r4) _ (((b12.trans b3').trans b4).new hq) (rn4.same (Same.new hq)) ⟨q, ux, rfl, upd_same, hx4.kt (Same.new hq).kt⟩ (dr_sums hxd (by omega)).2
    | i + 2, hv => cases hv
  refine ifF (dnI (by omega)) ⟨_, rfl, by decide, fun l hl => ⟨g, l, _, rfl, rn2.same (Same.new hl), upd_same, (free_ne rn2 hl).1, by decide, by decide, fun i v H3 hv b3 rn3 => ⟨_, rfl, _, rfl, _, rfl, _, _, rfl, rfl, _, rfl, g, e, nm, names, el, he, by omega, rn3, ⟨?_, hnm.2⟩, hne, fun uy y H4 b4 rn4 hy hyd => ⟨three, fun q hq => ?_⟩⟩⟩⟩
  · exact b3 _ _ hne ((Same.new hl) _ _ hnm2)
  · have rl := rn2.same (Same.new (o := .lst [V.str "common", .str "without"]) hl)
    have b3' : But g.1 H2 H3 := ((But.refl g.1 H2).new hl).trans b3
    have hx4 := (hx.kt (b3'.ktR rn2)).kt (b4.ktR rn3)
    match i, hv with
    | 0, hv =>
      cases hv
      exact k0 _ (.comm x y) _ (((b12.trans b3').trans b4).new hq) (rn4.same (Same.new hq)) ⟨q, ux, uy, rfl, upd_same, hx4.kt (Same.new hq).kt, hy.kt (Same.new hq).kt⟩ (dr_comm hxd hyd).1
    | 1, hv =>
      cases hv
      exact k0 _ (.wout x y) _ (((b12.trans b3').trans b4).new hq) (rn4.same (Same.new hq)) ⟨q, ux, uy, rfl, upd_same, hx4.kt (Same.new hq).kt, hy.kt (Same.new hq).kt⟩ (dr_comm hxd hyd).2
    | i + 2, hv => cases hv
open D45 in
theorem c__law_tree (T : Txt w K mg a) : ∀ n, Cal P w K mg base L2.CX0 (4 + n) "_law_tree" (spDTree n)
  | 0 => by
    refine cal0 (k := 3) T.d45 S (fun vs H Q E h => ?_) (fun _ _ _ _ _ _ us hl => match us, hl with | [_, _, _], _ => rfl) (fun f cdv A outer s H vs Q E hr h => ?_)
    · obtain ⟨_, _, _, _, rfl, _⟩ := h; rfl
    · obtain ⟨_, _, _, _, _, h1, h2, _⟩ := h
      omega
  | n + 1 => by
    have h4 : 4 ≤ 4 + n := Nat.le_add_right _ _
    exact c__law_tree_step T n (4 + n) h4 (c__law_tree T n)
end Rb
set_option maxRecDepth 100000
set_option maxHeartbeats 4000000
namespace Rb
open PySem PySem.Spec PyProof.Rows L2 SX RbR
open TL (numL)
variable {P : Program} {w : World} {K : PySem.W.Frag} {mg : Str → Option Value} {base : Heap} {a : Ads}
def spLev : Sp := fun vs H Q _ => ∃ (u : V) (T : Tm), vs = [u] ∧ TreeAt H u T ∧ ∀ H', Same H H' → Q (.int (lev T : Nat)) H'
abbrev levTab : List (L2.Key × V) := [(.inr "join", .int 1), (.inr "sum", .int 2), (.inr "difference", .int 2), (.inr "product", .int 3), (.inr "quotient", .int 3), (.inr "negative", .int 4), (.inr "power", .int 5)]
theorem lev_tab (T : Tm) : (valV (mergeK [] levTab) (.inr (word T))).getD (.int 6) = .int (lev T : Nat) := by
  cases T with
  | bin o _ _ => cases o <;> rfl
  | _ => rfl
abbrev symTab : List (L2.Key × V) := [(.inr "join", .str " | "), (.inr "sum", .str " + "), (.inr "difference", .str " - "), (.inr "product", .str " * "), (.inr "quotient", .str " / ")]
theorem sym_tab (o : Bop) : valV (mergeK [] symTab) (.inr (bw o)) = some (.str (S [32, o.sym, 32])) := by
  cases o <;> rfl
namespace D48
abbrev ST : Stmt := top 48
abbrev NS : List Str := ["_law_tree_here", "_law_table"]
theorem S : FnScope NS ["_law_tree_here"] (defScope ST) := ⟨rfl, rfl, rfl, by decide +kernel, rfl, by decide +kernel, by decide +kernel⟩
end D48
open D48 in
theorem c__law_level (T : Txt w K mg a) : Cal P w K mg base L2.CX0 1 "_law_level" spLev := by
  refine cal0 T.d48 S (fun vs H Q E h => ?_) (fun _ _ _ _ _ _ us hl => match us, hl with | [_], _ => rfl) (fun f cdv A outer s H vs Q E hr h => ?_)
  · obtain ⟨_, _, rfl, _⟩ := h; rfl
  obtain ⟨u, T1, rfl, ht, k⟩ := h
  refine ⟨_, (pss_cons (ps_set (i := 1) S.nd rfl (Or.inl rfl) (pe_disp (pps_cons pe_str pe_int (pps_cons pe_str pe_int (pps_cons pe_str pe_int (pps_cons pe_str pe_int (pps_cons pe_str pe_int (pps_cons pe_str pe_int (pps_cons pe_str pe_int pps_nil))))))) rfl rfl (List.cons_ne_nil _ _) (by show 7 ≤ 15; decide)))
  (pss_one (ps_ret (pe_dget2 (hu_of hr) (pv 1) (pe_ix ix_tup (pv 0) pe_int (fun _ _ => rfl)) pe_int ⟨rfl, rfl, rfl, rfl⟩)))), ?_⟩
  obtain ⟨b, us, rfl, hb, hus⟩ := tree_shape ht
  refine fun p hp => ⟨upd_same, levTab, rfl, by decide, ?_⟩
  rw [upd_upd]
  have sm : Same H (upd H p (.dK (mergeK [] levTab))) := Same.new hp
  have hp1 : (upd H p (.dK (mergeK [] levTab))) p = some (.dK (mergeK [] levTab)) := upd_same
  generalize upd H p (.dK (mergeK [] levTab)) = H1 at sm hp1
  refine ⟨_, rfl, p, rfl, .inl ⟨_, .inl hp1⟩, _, rfl, b, _, _, _, rfl, rfl, SqT.of (sm _ _ hb), at_of (j := 0) rfl rfl, _, DGet.k (k := .inr (word T1)) hp1, ?_⟩
  rw [lev_tab]
  exact k _ sm
theorem nums_len3 : ∀ qs : List Rt, 3 * qs.length ≤ (numsTx qs).length + 2
  | [] => by simp
  | [q] => by have := numTx_pos q; show 3 ≤ (numTx q).length + 2; omega
  | q :: q2 :: r => by
    have ih := nums_len3 (q2 :: r)
    have h1 := numTx_pos q
    have e : numsTx (q :: q2 :: r) = numTx q ++ ([44, 32] ++ numsTx (q2 :: r)) := rfl
    rw [e]
    simp at ih ⊢
    omega
def spLTx (n : Nat) : Sp := fun vs H Q _ => ∃ (u : V) (T : Tm), vs = [u] ∧ TreeAt H u T ∧ Ok T ∧ nodes T ≤ n ∧ (fmt T).length ≤ 2500 ∧ ∀ H', Same H H' → Q (.str (S (fmt T))) H'
def spLOp (n : Nat) : Sp := fun vs H Q _ => ∃ (u : V) (T : Tm) (l : Nat), vs = [u, .int (l : Nat)] ∧ TreeAt H u T ∧ Ok T ∧ nodes T ≤ n ∧ (fmt T).length ≤ 2500 ∧ ∀ H', Same H H' → Q (.str (S (fmtw l T))) H'
namespace D49
abbrev ST : Stmt := top 49
abbrev NS : List Str := ["_law_tree_here", "_law_level_here", "_law_text_here"]
theorem S : FnScope NS ["_law_tree_here", "_law_level_here"] (defScope ST) := ⟨rfl, rfl, rfl, by decide +kernel, rfl, by decide +kernel, by decide +kernel⟩
end D49
open D49 in
theorem c__law_operand (T : Txt w K mg a) (n k : Nat) (hk : 1 ≤ k) (c__law_text : Cal P w K mg base L2.CX0 k "_law_text" (spLTx n)) : Cal P w K mg base L2.CX0 (k + 1) "_law_operand" (spLOp n) := by
  have c__law_level := c__law_level (P := P) (base := base) T
  refine cal0 T.d49 S (fun vs H Q E h => ?_) (fun _ _ _ _ _ _ us hl => match us, hl with | [_, _], _ => rfl) (fun f cdv A outer s H vs Q E hr h => ?_)
  · obtain ⟨_, _, _, rfl, _⟩ := h; rfl
  obtain ⟨u, T1, l, rfl, ht, ok, hn, hl, k1⟩ := h
  refine ⟨_, (pss_cons (ps_set (i := 2) S.nd rfl (Or.inl rfl) (pe_k c__law_text hr (by omega) rfl L2.pass0 (pa_cons (pv 0) pa_nil)))
  (pss_one (ps_ret (pe_ifExp (pt_cmpR op_lt (pe_k c__law_level hr (by omega) rfl L2.pass0 (pa_cons (pv 0) pa_nil)) (pv 1) (nomark _)) (pe_op op_add_str (pe_op op_add_str pe_str (pv 2)) pe_str) (pv 2))))), ?_⟩
  refine ⟨_, rfl, u, T1, rfl, ht, ok, hn, hl, fun H1 sm => ?_⟩
  refine ⟨_, rfl, u, T1, rfl, ht.kt sm.kt, fun H2 sm2 => ⟨_, rfl, _, _, rfl, rfl, _, rfl, ?_⟩⟩
  by_cases h : lev T1 < l
  · refine ifT (decide_eq_true (by omega)) ⟨_, rfl, S [40], _, rfl, rfl, by (rw [S_len, S_len]; exact szL (by simp; omega)), _, S [41], rfl, rfl, by (rw [S_cat, S_len, S_len]; exact szL (by simp; omega)), ?_⟩
    rw [S_cat, S_cat]
    refine fin_str (k1 _ (sm.trans sm2)) ?_
    rw [fmtw_lt h]
    simp
  · refine ifF (decide_eq_false (by omega)) ⟨_, rfl, ?_⟩
    have := k1 _ (sm.trans sm2)
    rw [fmtw_ge (by omega)] at this
    exact this
end Rb
set_option maxRecDepth 100000
set_option maxHeartbeats 4000000
namespace Rb
open PySem PySem.Spec PyProof.Rows L2 SX RbR
open TL (numL)
variable {P : Program} {w : World} {K : PySem.W.Frag} {mg : Str → Option Value} {base : Heap} {a : Ads}
def isUnity : Tm → Bool
  | .unity _ => true | _ => false
def isRoots : Tm → Bool
  | .roots _ => true | _ => false
def isMap : Tm → Bool
  | .map _ _ => true | _ => false
def isDist : Tm → Bool
  | .dist _ => true | _ => false
def isSP : Tm → Bool
  | .sums _ _ => true | .prods _ _ => true | _ => false
def isCW : Tm → Bool
  | .comm _ _ => true | .wout _ _ => true | _ => false
theorem w_unity (T : Tm) : decide (V.str (word T) = V.str "unity") = isUnity T := by
  cases T with
  | bin o _ _ => cases o <;> exact dnS (by simp only [word]; decide)
  | unity _ => exact decide_eq_true rfl
  | _ => exact dnS (by simp only [word]; decide)
theorem w_roots (T : Tm) : decide (V.str (word T) = V.str "roots") = isRoots T := by
  cases T with
  | bin o _ _ => cases o <;> exact dnS (by simp only [word]; decide)
  | roots _ => exact decide_eq_true rfl
  | _ => exact dnS (by simp only [word]; decide)
theorem w_map (T : Tm) : decide (V.str (word T) = V.str "map") = isMap T := by
  cases T with
  | bin o _ _ => cases o <;> exact dnS (by simp only [word]; decide)
  | map _ _ => exact decide_eq_true rfl
  | _ => exact dnS (by simp only [word]; decide)
theorem w_dist (T : Tm) : decide (V.str (word T) = V.str "distinct") = isDist T := by
  cases T with
  | bin o _ _ => cases o <;> exact dnS (by simp only [word]; decide)
  | dist _ => exact decide_eq_true rfl
  | _ => exact dnS (by simp only [word]; decide)
theorem w_sp (T : Tm) : inV (.str (word T)) [.str "sums", .str "products"] = isSP T := by
  cases T with
  | bin o _ _ => cases o <;> rfl
  | _ => rfl
theorem w_cw (T : Tm) : inV (.str (word T)) [.str "common", .str "without"] = isCW T := by
  cases T with
  | bin o _ _ => cases o <;> rfl
  | _ => rfl
namespace D50
abbrev ST : Stmt := top 50
abbrev NS : List Str := ["_law_tree_here", "_law_word", "_law_sign", "_law_level_here"]
theorem S : FnScope NS ["_law_tree_here"] (defScope ST) := ⟨rfl, rfl, rfl, by decide +kernel, rfl, by decide +kernel, by decide +kernel⟩
end D50
open D50 in
theorem c__law_text_step (T : Txt w K mg a) (n k : Nat) (hk : 2 ≤ k) (c__law_text : Cal P w K mg base L2.CX0 k "_law_text" (spLTx n)) (c__law_operand : Cal P w K mg base L2.CX0 k "_law_operand" (spLOp n)) : Cal P w K mg base L2.CX0 (k + 1) "_law_text" (spLTx (n + 1)) := by
  have c__law_numbers_text := c__law_numbers_text (P := P) (base := base) T
  have c__law_level := c__law_level (P := P) (base := base) T
  refine cal0 T.d50 S (fun vs H Q E h => ?_) (fun _ _ _ _ _ _ us hl => match us, hl with | [_], _ => rfl) (fun f cdv A outer s H vs Q E hr h => ?_)
  · obtain ⟨_, _, rfl, _⟩ := h; rfl
  obtain ⟨u, T1, rfl, ht, ok, hn, hl, k1⟩ := h
  refine ⟨_, (pss_cons (ps_set (i := 1) S.nd rfl (Or.inl rfl) (pe_ix ix_tup (pv 0) pe_int (fun _ _ => rfl)))
  (pss_cons (ps_if (pt_cmpR op_eq (pv 1) pe_str (nomark _))
    (pss_one (ps_ret (pe_ix ix_tup (pv 0) pe_int (fun _ _ => rfl))))
    pss_nil)
  (pss_cons (ps_if (pt_cmpR op_eq (pv 1) pe_str (nomark _))
    (pss_one (ps_ret (pe_op op_add_str (pe_op op_add_str pe_str (pe_k c__law_numbers_text hr (by omega) rfl L2.pass0 (pa_cons (pe_ix ix_tup (pv 0) pe_int (fun _ _ => rfl)) pa_nil))) pe_str)))
    pss_nil)
  (pss_cons (ps_if (pt_cmpR op_eq (pv 1) pe_str (nomark _))
    (pss_one (ps_ret (pe_op op_add_str (pe_op op_add_str pe_str (pe_callTy call_str_int rfl T.bStr (by decide +kernel) (pa_cons (pe_ix ix_tup (pv 0) pe_int (fun _ _ => rfl)) pa_nil))) pe_str)))
    pss_nil)
  (pss_cons (ps_if (pt_cmpR op_eq (pv 1) pe_str (nomark _))
    (pss_one (ps_ret (pe_op op_add_str (pe_op op_add_str pe_str (pe_k c__law_numbers_text hr (by omega) rfl L2.pass0 (pa_cons (pe_ix ix_tup (pv 0) pe_int (fun _ _ => rfl)) pa_nil))) pe_str)))
    pss_nil)
  (pss_cons (ps_if (pt_cmpR op_eq (pv 1) pe_str (nomark _))
    (pss_one (ps_ret (pe_op op_add_str pe_str (pe_k c__law_operand hr (by omega) rfl L2.pass0 (pa_cons (pe_ix ix_tup (pv 0) pe_int (fun _ _ => rfl)) (pa_cons pe_int pa_nil))))))
    pss_nil)
  (pss_cons (ps_if (pt_cmpR op_eq (pv 1) pe_str (nomark _))
    (pss_one (ps_ret (pe_op op_add_str (pe_op op_add_str (pe_k c__law_operand hr (by omega) rfl L2.pass0 (pa_cons (pe_ix ix_tup (pv 0) pe_int (fun _ _ => rfl)) (pa_cons pe_int pa_nil))) pe_str) (pe_callTy call_str_int rfl T.bStr (by decide +kernel) (pa_cons (pe_ix ix_tup (pv 0) pe_int (fun _ _ => rfl)) pa_nil)))))
    pss_nil)
  (pss_cons (ps_if (pt_cmpR op_eq (pv 1) pe_str (nomark _))
    (pss_one (ps_ret (pe_op op_add_str (pe_op op_add_str (pe_op op_add_str (pe_op op_add_str pe_str (pe_k c__law_numbers_text hr (by omega) rfl L2.pass0 (pa_cons (pe_ix ix_tup (pv 0) pe_int (fun _ _ => rfl)) pa_nil))) pe_str) (pe_k c__law_text hr (by omega) rfl L2.pass0 (pa_cons (pe_ix ix_tup (pv 0) pe_int (fun _ _ => rfl)) pa_nil))) pe_str)))
    pss_nil)
  (pss_cons (ps_if (pt_cmpR op_in_seq (pv 1) (pe_lst (pa_cons pe_str (pa_cons pe_str pa_nil))) rfl)
    (pss_one (ps_ret (pe_op op_add_str (pe_op op_add_str (pe_op op_add_str (pe_op op_add_str (pe_op op_add_str (pv 1) pe_str) (pe_k c__law_text hr (by omega) rfl L2.pass0 (pa_cons (pe_ix ix_tup (pv 0) pe_int (fun _ _ => rfl)) pa_nil))) pe_str) (pe_callTy call_str_int rfl T.bStr (by decide +kernel) (pa_cons (pe_ix ix_tup (pv 0) pe_int (fun _ _ => rfl)) pa_nil))) pe_str)))
    pss_nil)
  (pss_cons (ps_if (pt_cmpR op_eq (pv 1) pe_str (nomark _))
    (pss_one (ps_ret (pe_op op_add_str (pe_op op_add_str pe_str (pe_k c__law_text hr (by omega) rfl L2.pass0 (pa_cons (pe_ix ix_tup (pv 0) pe_int (fun _ _ => rfl)) pa_nil))) pe_str)))
    pss_nil)
  (pss_cons (ps_if (pt_cmpR op_in_seq (pv 1) (pe_lst (pa_cons pe_str (pa_cons pe_str pa_nil))) rfl)
    (pss_one (ps_ret (pe_op op_add_str (pe_op op_add_str (pe_op op_add_str (pe_op op_add_str (pe_op op_add_str (pv 1) pe_str) (pe_k c__law_text hr (by omega) rfl L2.pass0 (pa_cons (pe_ix ix_tup (pv 0) pe_int (fun _ _ => rfl)) pa_nil))) pe_str) (pe_k c__law_text hr (by omega) rfl L2.pass0 (pa_cons (pe_ix ix_tup (pv 0) pe_int (fun _ _ => rfl)) pa_nil))) pe_str)))
    pss_nil)
  (pss_cons (ps_set (i := 2) S.nd rfl (Or.inl rfl) (pe_dget (hu_of hr) (pe_disp (pps_cons pe_str pe_str (pps_cons pe_str pe_str (pps_cons pe_str pe_str (pps_cons pe_str pe_str (pps_cons pe_str pe_str pps_nil))))) rfl rfl (List.cons_ne_nil _ _) (by show 5 ≤ 15; decide)) (pv 1) (fun _ _ => rfl)))
  (pss_cons (ps_set (i := 3) S.nd rfl (Or.inl rfl) (pe_k c__law_level hr (by omega) rfl L2.pass0 (pa_cons (pv 0) pa_nil)))
  (pss_one (ps_ret (pe_op op_add_str (pe_op op_add_str (pe_k c__law_operand hr (by omega) rfl L2.pass0 (pa_cons (pe_ix ix_tup (pv 0) pe_int (fun _ _ => rfl)) (pa_cons (pv 3) pa_nil))) (pv 2)) (pe_k c__law_operand hr (by omega) rfl L2.pass0 (pa_cons (pe_ix ix_tup (pv 0) pe_int (fun _ _ => rfl)) (pa_cons (pe_op op_add (pv 3) pe_int) pa_nil))))))))))))))))))), ?_⟩
  obtain ⟨b, us, rfl, hb, hus⟩ := tree_shape ht
  refine ⟨_, rfl, b, _, _, _, rfl, rfl, SqT.of hb, at_of (j := 0) rfl rfl, _, rfl, rfl, _, rfl, ?_⟩
  rw [w_name]
  cases T1 with
  | name s =>
    obtain ⟨b', eq, hb'⟩ := ht
    cases eq
    rw [hb] at hb'
    cases hb'
    exact ifT rfl ⟨_, rfl, b, _, _, _, rfl, rfl, SqT.of hb, at_of (j := 1) rfl rfl, k1 _ (Same.refl _)⟩
  | list q =>
    obtain ⟨b', c, eq, hb', hnq⟩ := ht
    cases eq
    rw [hb] at hb'
    cases hb'
    refine ifF rfl ⟨_, rfl, rfl, _, rfl, ?_⟩
    rw [w_list]
    have ef : fmt (.list q) = 123 :: (numsTx q ++ [125]) := rfl
    rw [ef] at hl
    simp only [List.length_append, List.length_cons, List.length_nil] at hl
    have hql := nums_len3 q
    refine ifT rfl ⟨_, rfl, b, _, _, _, rfl, rfl, SqT.of hb, at_of (j := 1) rfl rfl, c, q, rfl, hnq, fun q hq => (ok q hq).num, by omega, fun H1 sm => ⟨S [123], _, rfl, rfl, by (simp only [S_cat, S_len, List.length_append, List.length_cons, List.length_nil]; exact szL (by omega)), _, S [125], rfl, rfl, by (simp only [S_cat, S_len, List.length_append, List.length_cons, List.length_nil]; exact szL (by omega)), ?_⟩⟩
    rw [S_cat, S_cat]
    exact fin_str (k1 _ sm) (by rw [ef]; simp)
  | unity n' =>
    obtain ⟨b', eq, hb'⟩ := ht
    cases eq
    rw [hb] at hb'
    cases hb'
    refine ifF rfl ⟨_, rfl, rfl, _, rfl, ?_⟩
    rw [w_list]
    refine ifF rfl ⟨_, rfl, rfl, _, rfl, ?_⟩
    rw [w_unity]
    have ef : fmt (.unity n') = wUnity ++ (40 :: (numL n' ++ [41])) := rfl
    rw [ef] at hl
    simp only [List.length_append, List.length_cons, List.length_nil] at hl
    refine ifT rfl ⟨_, rfl, b, _, _, _, rfl, rfl, SqT.of hb, at_of (j := 1) rfl rfl, _, rfl, lg (Nat.lt_of_lt_of_le ok (by decide +kernel)), ?_⟩
    rw [str_int, int_nat]
    refine ⟨S (wUnity ++ [40]), _, rfl, rfl, by (simp only [wUnity, S_cat, S_len, List.length_append, List.length_cons, List.length_nil] at hl ⊢; exact szL (by omega)), _, S [41], rfl, rfl, by (simp only [wUnity, S_cat, S_len, List.length_append, List.length_cons, List.length_nil] at hl ⊢; exact szL (by omega)), ?_⟩
    rw [S_cat, S_cat]
    exact fin_str (k1 _ (Same.refl _)) (by rw [ef]; simp)
  | roots q =>
    obtain ⟨b', c, eq, hb', hnq⟩ := ht
    cases eq
    rw [hb] at hb'
    cases hb'
    refine ifF rfl ⟨_, rfl, rfl, _, rfl, ?_⟩
    rw [w_list]
    refine ifF rfl ⟨_, rfl, rfl, _, rfl, ?_⟩
    rw [w_unity]
    refine ifF rfl ⟨_, rfl, rfl, _, rfl, ?_⟩
    rw [w_roots]
    have ef : fmt (.roots q) = wRoots ++ (40 :: 91 :: (numsTx q ++ [93, 41])) := rfl
    rw [ef] at hl
    simp only [List.length_append, List.length_cons, List.length_nil] at hl
    have hql := nums_len3 q
    refine ifT rfl ⟨_, rfl, b, _, _, _, rfl, rfl, SqT.of hb, at_of (j := 1) rfl rfl, c, q, rfl, hnq, fun z hz => (ok.1.1 z hz).num, by omega, fun H1 sm => ⟨S (wRoots ++ [40, 91]), _, rfl, rfl, by (simp only [wRoots, S_cat, S_len, List.length_append, List.length_cons, List.length_nil] at hl ⊢; exact szL (by omega)), _, S [93, 41], rfl, rfl, by (simp only [wRoots, S_cat, S_len, List.length_append, List.length_cons, List.length_nil] at hl ⊢; exact szL (by omega)), ?_⟩⟩
    rw [S_cat, S_cat]
    exact fin_str (k1 _ sm) (by rw [ef]; simp)
  | neg x =>
    obtain ⟨b', c, eq, hb', hx⟩ := ht
    cases eq
    rw [hb] at hb'
    cases hb'
    refine ifF rfl ⟨_, rfl, rfl, _, rfl, ?_⟩
    rw [w_list]
    refine ifF rfl ⟨_, rfl, rfl, _, rfl, ?_⟩
    rw [w_unity]
    refine ifF rfl ⟨_, rfl, rfl, _, rfl, ?_⟩
    rw [w_roots]
    refine ifF rfl ⟨_, rfl, rfl, _, rfl, ?_⟩
    rw [w_neg]
    have ef : fmt (.neg x) = 45 :: fmtw 4 x := rfl
    rw [ef] at hl
    simp only [List.length_append, List.length_cons, List.length_nil] at hl
    have hx1 := (fmtw_mono (Nat.le_refl 4) x).2.2
    have hnn : nodes (.neg x) = 1 + nodes x := rfl
    refine ifT rfl ⟨_, rfl, b, _, _, _, rfl, rfl, SqT.of hb, at_of (j := 1) rfl rfl, c, x, 4, rfl, hx, ok, by omega, by omega, fun H1 sm => ⟨S [45], _, rfl, rfl, by (simp only [S_cat, S_len, List.length_append, List.length_cons, List.length_nil]; exact szL (by omega)), ?_⟩⟩
    rw [S_cat]
    exact fin_str (k1 _ sm) (by rw [ef]; simp)
  | pow x e =>
    obtain ⟨b', c, eq, hb', hx⟩ := ht
    cases eq
    rw [hb] at hb'
    cases hb'
    refine ifF rfl ⟨_, rfl, rfl, _, rfl, ?_⟩
    rw [w_list]
    refine ifF rfl ⟨_, rfl, rfl, _, rfl, ?_⟩
    rw [w_unity]
    refine ifF rfl ⟨_, rfl, rfl, _, rfl, ?_⟩
    rw [w_roots]
    refine ifF rfl ⟨_, rfl, rfl, _, rfl, ?_⟩
    rw [w_neg]
    refine ifF rfl ⟨_, rfl, rfl, _, rfl, ?_⟩
    rw [w_pow]
    have ef : fmt (.pow x e) = fmtw 5 x ++ (32 :: 94 :: 32 :: numL e) := rfl
    rw [ef] at hl
    simp only [List.length_append, List.length_cons, List.length_nil] at hl
    have hx1 := (fmtw_mono (Nat.le_refl 5) x).2.2
    have hnn : nodes (.pow x e) = 1 + nodes x := rfl
    refine ifT rfl ⟨_, rfl, b, _, _, _, rfl, rfl, SqT.of hb, at_of (j := 1) rfl rfl, c, x, 5, rfl, hx, ok.1, by omega, by omega, fun H1 sm => ⟨_, S [32, 94, 32], rfl, rfl, by (simp only [S_cat, S_len, List.length_append, List.length_cons, List.length_nil]; exact szL (by omega)), ?_⟩⟩
    refine ⟨_, rfl, b, _, _, _, rfl, rfl, SqT.of (sm _ _ hb), at_of (j := 2) rfl rfl, _, rfl, lg (Nat.lt_of_lt_of_le ok.2 (by decide +kernel)), ?_⟩
    rw [str_int, int_nat]
    refine ⟨_, _, rfl, rfl, by (simp only [S_cat, S_len, List.length_append, List.length_cons, List.length_nil]; exact szL (by omega)), ?_⟩
    rw [S_cat, S_cat]
    exact fin_str (k1 _ sm) (by rw [ef]; simp)
  | map q x =>
    obtain ⟨b', c, d, eq, hb', hnq, hx⟩ := ht
    cases eq
    rw [hb] at hb'
    cases hb'
    refine ifF rfl ⟨_, rfl, rfl, _, rfl, ?_⟩
    rw [w_list]
    refine ifF rfl ⟨_, rfl, rfl, _, rfl, ?_⟩
    rw [w_unity]
    refine ifF rfl ⟨_, rfl, rfl, _, rfl, ?_⟩
    rw [w_roots]
    refine ifF rfl ⟨_, rfl, rfl, _, rfl, ?_⟩
    rw [w_neg]
    refine ifF rfl ⟨_, rfl, rfl, _, rfl, ?_⟩
    rw [w_pow]
    refine ifF rfl ⟨_, rfl, rfl, _, rfl, ?_⟩
    rw [w_map]
    have ef : fmt (.map q x) = wMap ++ (40 :: 91 :: (numsTx q ++ (93 :: 44 :: 32 :: (fmt x ++ [41])))) := rfl
    rw [ef] at hl
    simp only [List.length_append, List.length_cons, List.length_nil] at hl
    have hql := nums_len3 q
    have hnn : nodes (.map q x) = 1 + nodes x := rfl
    refine ifT rfl ⟨_, rfl, b, _, _, _, rfl, rfl, SqT.of hb, at_of (j := 1) rfl rfl, c, q, rfl, hnq, fun z hz => (ok.1.1 z hz).num, by omega, fun H1 sm => ⟨S (wMap ++ [40, 91]), _, rfl, rfl, by (simp only [wMap, S_cat, S_len, List.length_append, List.length_cons, List.length_nil] at hl ⊢; exact szL (by omega)), _, S [93, 44, 32], rfl, rfl, by (simp only [wMap, S_cat, S_len, List.length_append, List.length_cons, List.length_nil] at hl ⊢; exact szL (by omega)), ?_⟩⟩
    rw [S_cat, S_cat]
    refine ⟨_, rfl, b, _, _, _, rfl, rfl, SqT.of (sm _ _ hb), at_of (j := 2) rfl rfl, d, x, rfl, hx.kt sm.kt, ok.2, by omega, by omega, fun H2 sm2 => ⟨_, _, rfl, rfl, by (simp only [wMap, S_cat, S_len, List.length_append, List.length_cons, List.length_nil] at hl ⊢; exact szL (by omega)), _, S [41], rfl, rfl, by (simp only [wMap, S_cat, S_len, List.length_append, List.length_cons, List.length_nil] at hl ⊢; exact szL (by omega)), ?_⟩⟩
    rw [S_cat, S_cat]
    exact fin_str (k1 _ (sm.trans sm2)) (by rw [ef]; simp)
  | sums x e =>
    obtain ⟨b', c, eq, hb', hx⟩ := ht
    cases eq
    rw [hb] at hb'
    cases hb'
    refine ifF rfl ⟨_, rfl, rfl, _, rfl, ?_⟩
    rw [w_list]
    refine ifF rfl ⟨_, rfl, rfl, _, rfl, ?_⟩
    rw [w_unity]
    refine ifF rfl ⟨_, rfl, rfl, _, rfl, ?_⟩
    rw [w_roots]
    refine ifF rfl ⟨_, rfl, rfl, _, rfl, ?_⟩
    rw [w_neg]
    refine ifF rfl ⟨_, rfl, rfl, _, rfl, ?_⟩
    rw [w_pow]
    refine ifF rfl ⟨_, rfl, rfl, _, rfl, ?_⟩
    rw [w_map]
    refine ifF rfl ⟨_, rfl, by decide, fun p6 hp6 => ⟨p6, _, rfl, .inl (SqL.of upd_same), rfl, rfl, _, rfl, ?_⟩⟩
    rw [w_sp]
    have hb := (Same.new (o := .lst [V.str "sums", .str "products"]) hp6) _ _ hb
    have smz6 : Same H (upd H p6 (.lst [V.str "sums", .str "products"])) := Same.new hp6
    generalize upd H p6 (.lst [V.str "sums", .str "products"]) = Hz6 at hb smz6
    have ef : fmt (.sums x e) = wSums ++ (40 :: (fmt x ++ (44 :: 32 :: (numL e ++ [41])))) := rfl
    rw [ef] at hl
    simp only [List.length_append, List.length_cons, List.length_nil] at hl
    have hnn : nodes (.sums x e) = 1 + nodes x := rfl
    have hx := hx.kt smz6.kt
    refine ifT rfl ⟨_, rfl, S wSums, S [40], rfl, rfl, by (simp only [wSums, S_cat, S_len, List.length_append, List.length_cons, List.length_nil] at hl ⊢; exact szL (by omega)), ?_⟩
    rw [S_cat]
    refine ⟨_, rfl, b, _, _, _, rfl, rfl, SqT.of hb, at_of (j := 1) rfl rfl, c, x, rfl, hx, ok.1, by omega, by omega, fun H1 sm => ⟨_, _, rfl, rfl, by (simp only [wSums, S_cat, S_len, List.length_append, List.length_cons, List.length_nil] at hl ⊢; exact szL (by omega)), _, S [44, 32], rfl, rfl, by (simp only [wSums, S_cat, S_len, List.length_append, List.length_cons, List.length_nil] at hl ⊢; exact szL (by omega)), ?_⟩⟩
    rw [S_cat, S_cat]
    refine ⟨_, rfl, b, _, _, _, rfl, rfl, SqT.of (sm _ _ hb), at_of (j := 2) rfl rfl, _, rfl, lg (Nat.lt_of_lt_of_le ok.2 (by decide +kernel)), ?_⟩
    rw [str_int, int_nat]
    refine ⟨_, _, rfl, rfl, by (simp only [wSums, S_cat, S_len, List.length_append, List.length_cons, List.length_nil] at hl ⊢; exact szL (by omega)), _, S [41], rfl, rfl, by (simp only [wSums, S_cat, S_len, List.length_append, List.length_cons, List.length_nil] at hl ⊢; exact szL (by omega)), ?_⟩
    rw [S_cat, S_cat]
    exact fin_str (k1 _ (smz6.trans sm)) (by rw [ef]; simp)
  | prods x e =>
    obtain ⟨b', c, eq, hb', hx⟩ := ht
    cases eq
    rw [hb] at hb'
    cases hb'
    refine ifF rfl ⟨_, rfl, rfl, _, rfl, ?_⟩
    rw [w_list]
    refine ifF rfl ⟨_, rfl, rfl, _, rfl, ?_⟩
    rw [w_unity]
    refine ifF rfl ⟨_, rfl, rfl, _, rfl, ?_⟩
    rw [w_roots]
    refine ifF rfl ⟨_, rfl, rfl, _, rfl, ?_⟩
    rw [w_neg]
    refine ifF rfl ⟨_, rfl, rfl, _, rfl, ?_⟩
    rw [w_pow]
    refine ifF rfl ⟨_, rfl, rfl, _, rfl, ?_⟩
    rw [w_map]
    refine ifF rfl ⟨_, rfl, by decide, fun p6 hp6 => ⟨p6, _, rfl, .inl (SqL.of upd_same), rfl, rfl, _, rfl, ?_⟩⟩
    rw [w_sp]
    have hb := (Same.new (o := .lst [V.str "sums", .str "products"]) hp6) _ _ hb
    have smz6 : Same H (upd H p6 (.lst [V.str "sums", .str "products"])) := Same.new hp6
    generalize upd H p6 (.lst [V.str "sums", .str "products"]) = Hz6 at hb smz6
    have ef : fmt (.prods x e) = wProds ++ (40 :: (fmt x ++ (44 :: 32 :: (numL e ++ [41])))) := rfl
    rw [ef] at hl
    simp only [List.length_append, List.length_cons, List.length_nil] at hl
    have hnn : nodes (.prods x e) = 1 + nodes x := rfl
    have hx := hx.kt smz6.kt
    refine ifT rfl ⟨_, rfl, S wProds, S [40], rfl, rfl, by (simp only [wProds, S_cat, S_len, List.length_append, List.length_cons, List.length_nil] at hl ⊢; exact szL (by omega)), ?_⟩
    rw [S_cat]
    refine ⟨_, rfl, b, _, _, _, rfl, rfl, SqT.of hb, at_of (j := 1) rfl rfl, c, x, rfl, hx, ok.1, by omega, by omega, fun H1 sm => ⟨_, _, rfl, rfl, by (simp only [wProds, S_cat, S_len, List.length_append, List.length_cons, List.length_nil] at hl ⊢; exact szL (by omega)), _, S [44, 32], rfl, rfl, by (simp only [wProds, S_cat, S_len, List.length_append, List.length_cons, List.length_nil] at hl ⊢; exact szL (by omega)), ?_⟩⟩
    rw [S_cat, S_cat]
    refine ⟨_, rfl, b, _, _, _, rfl, rfl, SqT.of (sm _ _ hb), at_of (j := 2) rfl rfl, _, rfl, lg (Nat.lt_of_lt_of_le ok.2 (by decide +kernel)), ?_⟩
    rw [str_int, int_nat]
    refine ⟨_, _, rfl, rfl, by (simp only [wProds, S_cat, S_len, List.length_append, List.length_cons, List.length_nil] at hl ⊢; exact szL (by omega)), _, S [41], rfl, rfl, by (simp only [wProds, S_cat, S_len, List.length_append, List.length_cons, List.length_nil] at hl ⊢; exact szL (by omega)), ?_⟩
    rw [S_cat, S_cat]
    exact fin_str (k1 _ (smz6.trans sm)) (by rw [ef]; simp)
  | dist x =>
    obtain ⟨b', c, eq, hb', hx⟩ := ht
    cases eq
    rw [hb] at hb'
    cases hb'
    refine ifF rfl ⟨_, rfl, rfl, _, rfl, ?_⟩
    rw [w_list]
    refine ifF rfl ⟨_, rfl, rfl, _, rfl, ?_⟩
    rw [w_unity]
    refine ifF rfl ⟨_, rfl, rfl, _, rfl, ?_⟩
    rw [w_roots]
    refine ifF rfl ⟨_, rfl, rfl, _, rfl, ?_⟩
    rw [w_neg]
    refine ifF rfl ⟨_, rfl, rfl, _, rfl, ?_⟩
    rw [w_pow]
    refine ifF rfl ⟨_, rfl, rfl, _, rfl, ?_⟩
    rw [w_map]
    refine ifF rfl ⟨_, rfl, by decide, fun p6 hp6 => ⟨p6, _, rfl, .inl (SqL.of upd_same), rfl, rfl, _, rfl, ?_⟩⟩
    rw [w_sp]
    have hb := (Same.new (o := .lst [V.str "sums", .str "products"]) hp6) _ _ hb
    have smz6 : Same H (upd H p6 (.lst [V.str "sums", .str "products"])) := Same.new hp6
    generalize upd H p6 (.lst [V.str "sums", .str "products"]) = Hz6 at hb smz6
    refine ifF rfl ⟨_, rfl, rfl, _, rfl, ?_⟩
    rw [w_dist]
    have ef : fmt (.dist x) = wDist ++ (40 :: (fmt x ++ [41])) := rfl
    rw [ef] at hl
    simp only [List.length_append, List.length_cons, List.length_nil] at hl
    have hnn : nodes (.dist x) = 1 + nodes x := rfl
    have hx := hx.kt smz6.kt
    refine ifT rfl ⟨_, rfl, b, _, _, _, rfl, rfl, SqT.of hb, at_of (j := 1) rfl rfl, c, x, rfl, hx, ok, by omega, by omega, fun H1 sm => ⟨S (wDist ++ [40]), _, rfl, rfl, by (simp only [wDist, S_cat, S_len, List.length_append, List.length_cons, List.length_nil] at hl ⊢; exact szL (by omega)), _, S [41], rfl, rfl, by (simp only [wDist, S_cat, S_len, List.length_append, List.length_cons, List.length_nil] at hl ⊢; exact szL (by omega)), ?_⟩⟩
    rw [S_cat, S_cat]
    exact fin_str (k1 _ (smz6.trans sm)) (by rw [ef]; simp)
  | comm x y =>
    obtain ⟨b', c, d, eq, hb', hx, hy⟩ := ht
    cases eq
    rw [hb] at hb'
    cases hb'
    refine ifF rfl ⟨_, rfl, rfl, _, rfl, ?_⟩
    rw [w_list]
    refine ifF rfl ⟨_, rfl, rfl, _, rfl, ?_⟩
    rw [w_unity]
    refine ifF rfl ⟨_, rfl, rfl, _, rfl, ?_⟩
    rw [w_roots]
    refine ifF rfl ⟨_, rfl, rfl, _, rfl, ?_⟩
    rw [w_neg]
    refine ifF rfl ⟨_, rfl, rfl, _, rfl, ?_⟩
    rw [w_pow]
    refine ifF rfl ⟨_, rfl, rfl, _, rfl, ?_⟩
    rw [w_map]
    refine ifF rfl ⟨_, rfl, by decide, fun p6 hp6 => ⟨p6, _, rfl, .inl (SqL.of upd_same), rfl, rfl, _, rfl, ?_⟩⟩
    rw [w_sp]
    have hb := (Same.new (o := .lst [V.str "sums", .str "products"]) hp6) _ _ hb
    have smz6 : Same H (upd H p6 (.lst [V.str "sums", .str "products"])) := Same.new hp6
    generalize upd H p6 (.lst [V.str "sums", .str "products"]) = Hz6 at hb smz6
    refine ifF rfl ⟨_, rfl, rfl, _, rfl, ?_⟩
    rw [w_dist]
    refine ifF rfl ⟨_, rfl, by decide, fun p8 hp8 => ⟨p8, _, rfl, .inl (SqL.of upd_same), rfl, rfl, _, rfl, ?_⟩⟩
    rw [w_cw]
    have hb := (Same.new (o := .lst [V.str "common", .str "without"]) hp8) _ _ hb
    have smz8 : Same Hz6 (upd Hz6 p8 (.lst [V.str "common", .str "without"])) := Same.new hp8
    generalize upd Hz6 p8 (.lst [V.str "common", .str "without"]) = Hz8 at hb smz8
    have ef : fmt (.comm x y) = wComm ++ (40 :: (fmt x ++ (44 :: 32 :: (fmt y ++ [41])))) := rfl
    rw [ef] at hl
    simp only [List.length_append, List.length_cons, List.length_nil] at hl
    have hnn : nodes (.comm x y) = 1 + (nodes x + nodes y) := rfl
    have hx := hx.kt (smz6.trans smz8).kt
    have hy := hy.kt (smz6.trans smz8).kt
    refine ifT rfl ⟨_, rfl, S wComm, S [40], rfl, rfl, by (simp only [wComm, S_cat, S_len, List.length_append, List.length_cons, List.length_nil] at hl ⊢; exact szL (by omega)), ?_⟩
    rw [S_cat]
    refine ⟨_, rfl, b, _, _, _, rfl, rfl, SqT.of hb, at_of (j := 1) rfl rfl, c, x, rfl, hx, ok.1, by omega, by omega, fun H1 sm => ⟨_, _, rfl, rfl, by (simp only [wComm, S_cat, S_len, List.length_append, List.length_cons, List.length_nil] at hl ⊢; exact szL (by omega)), _, S [44, 32], rfl, rfl, by (simp only [wComm, S_cat, S_len, List.length_append, List.length_cons, List.length_nil] at hl ⊢; exact szL (by omega)), ?_⟩⟩
    rw [S_cat, S_cat]
    refine ⟨_, rfl, b, _, _, _, rfl, rfl, SqT.of (sm _ _ hb), at_of (j := 2) rfl rfl, d, y, rfl, hy.kt sm.kt, ok.2, by omega, by omega, fun H2 sm2 => ⟨_, _, rfl, rfl, by (simp only [wComm, S_cat, S_len, List.length_append, List.length_cons, List.length_nil] at hl ⊢; exact szL (by omega)), _, S [41], rfl, rfl, by (simp only [wComm, S_cat, S_len, List.length_append, List.length_cons, List.length_nil] at hl ⊢; exact szL (by omega)), ?_⟩⟩
    rw [S_cat, S_cat]
    exact fin_str (k1 _ (((smz6.trans smz8).trans sm).trans sm2)) (by rw [ef]; simp)
  | wout x y =>
    obtain ⟨b', c, d, eq, hb', hx, hy⟩ := ht
    cases eq
    rw [hb] at hb'
    cases hb'
    refine ifF rfl ⟨_, rfl, rfl, _, rfl, ?_⟩
    rw [w_list]
    refine ifF rfl ⟨_, rfl, rfl, _, rfl, ?_⟩
    rw [w_unity]
    refine ifF rfl ⟨_, rfl, rfl, _, rfl, ?_⟩
    rw [w_roots]
    refine ifF rfl ⟨_, rfl, rfl, _, rfl, ?_⟩
    rw [w_neg]
    refine ifF rfl ⟨_, rfl, rfl, _, rfl, ?_⟩
    rw [w_pow]
    refine ifF rfl ⟨_, rfl, rfl, _, rfl, ?_⟩
    rw [w_map]
    refine ifF rfl ⟨_, rfl, by decide, fun p6 hp6 => ⟨p6, _, rfl, .inl (SqL.of upd_same), rfl, rfl, _, rfl, ?_⟩⟩
    rw [w_sp]
    have hb := (Same.new (o := .lst [V.str "sums", .str "products"]) hp6) _ _ hb
    have smz6 : Same H (upd H p6 (.lst [V.str "sums", .str "products"])) := Same.new hp6
    generalize upd H p6 (.lst [V.str "sums", .str "products"]) = Hz6 at hb smz6
    refine ifF rfl ⟨_, rfl, rfl, _, rfl, ?_⟩
    rw [w_dist]
    refine ifF rfl ⟨_, rfl, by decide, fun p8 hp8 => ⟨p8, _, rfl, .inl (SqL.of upd_same), rfl, rfl, _, rfl, ?_⟩⟩
    rw [w_cw]
    have hb := (Same.new (o := .lst [V.str "common", .str "without"]) hp8) _ _ hb
    have smz8 : Same Hz6 (upd Hz6 p8 (.lst [V.str "common", .str "without"])) := Same.new hp8
    generalize upd Hz6 p8 (.lst [V.str "common", .str "without"]) = Hz8 at hb smz8
    have ef : fmt (.wout x y) = wWout ++ (40 :: (fmt x ++ (44 :: 32 :: (fmt y ++ [41])))) := rfl
    rw [ef] at hl
    simp only [List.length_append, List.length_cons, List.length_nil] at hl
    have hnn : nodes (.wout x y) = 1 + (nodes x + nodes y) := rfl
    have hx := hx.kt (smz6.trans smz8).kt
    have hy := hy.kt (smz6.trans smz8).kt
    refine ifT rfl ⟨_, rfl, S wWout, S [40], rfl, rfl, by (simp only [wWout, S_cat, S_len, List.length_append, List.length_cons, List.length_nil] at hl ⊢; exact szL (by omega)), ?_⟩
    rw [S_cat]
    refine ⟨_, rfl, b, _, _, _, rfl, rfl, SqT.of hb, at_of (j := 1) rfl rfl, c, x, rfl, hx, ok.1, by omega, by omega, fun H1 sm => ⟨_, _, rfl, rfl, by (simp only [wWout, S_cat, S_len, List.length_append, List.length_cons, List.length_nil] at hl ⊢; exact szL (by omega)), _, S [44, 32], rfl, rfl, by (simp only [wWout, S_cat, S_len, List.length_append, List.length_cons, List.length_nil] at hl ⊢; exact szL (by omega)), ?_⟩⟩
    rw [S_cat, S_cat]
    refine ⟨_, rfl, b, _, _, _, rfl, rfl, SqT.of (sm _ _ hb), at_of (j := 2) rfl rfl, d, y, rfl, hy.kt sm.kt, ok.2, by omega, by omega, fun H2 sm2 => ⟨_, _, rfl, rfl, by (simp only [wWout, S_cat, S_len, List.length_append, List.length_cons, List.length_nil] at hl ⊢; exact szL (by omega)), _, S [41], rfl, rfl, by (simp only [wWout, S_cat, S_len, List.length_append, List.length_cons, List.length_nil] at hl ⊢; exact szL (by omega)), ?_⟩⟩
    rw [S_cat, S_cat]
    exact fin_str (k1 _ (((smz6.trans smz8).trans sm).trans sm2)) (by rw [ef]; simp)
  | bin o x y =>
    obtain ⟨b', c, d, eq, hb', hx, hy⟩ := ht
    cases eq
    rw [hb] at hb'
    cases hb'
    refine ifF rfl ⟨_, rfl, rfl, _, rfl, ?_⟩
    rw [w_list]
    refine ifF rfl ⟨_, rfl, rfl, _, rfl, ?_⟩
    rw [w_unity]
    refine ifF rfl ⟨_, rfl, rfl, _, rfl, ?_⟩
    rw [w_roots]
    refine ifF rfl ⟨_, rfl, rfl, _, rfl, ?_⟩
    rw [w_neg]
    refine ifF rfl ⟨_, rfl, rfl, _, rfl, ?_⟩
    rw [w_pow]
    refine ifF rfl ⟨_, rfl, rfl, _, rfl, ?_⟩
    rw [w_map]
    refine ifF rfl ⟨_, rfl, by decide, fun p6 hp6 => ⟨p6, _, rfl, .inl (SqL.of upd_same), rfl, rfl, _, rfl, ?_⟩⟩
    rw [w_sp]
    have hb := (Same.new (o := .lst [V.str "sums", .str "products"]) hp6) _ _ hb
    have smz6 : Same H (upd H p6 (.lst [V.str "sums", .str "products"])) := Same.new hp6
    generalize upd H p6 (.lst [V.str "sums", .str "products"]) = Hz6 at hb smz6
    refine ifF rfl ⟨_, rfl, rfl, _, rfl, ?_⟩
    rw [w_dist]
    refine ifF rfl ⟨_, rfl, by decide, fun p8 hp8 => ⟨p8, _, rfl, .inl (SqL.of upd_same), rfl, rfl, _, rfl, ?_⟩⟩
    rw [w_cw]
    have hb := (Same.new (o := .lst [V.str "common", .str "without"]) hp8) _ _ hb
    have smz8 : Same Hz6 (upd Hz6 p8 (.lst [V.str "common", .str "without"])) := Same.new hp8
    generalize upd Hz6 p8 (.lst [V.str "common", .str "without"]) = Hz8 at hb smz8
    have ef : fmt (.bin o x y) = fmtw o.lev x ++ (32 :: o.sym :: 32 :: fmtw (o.lev + 1) y) := rfl
    rw [ef] at hl
    simp only [List.length_append, List.length_cons, List.length_nil] at hl
    have hnn : nodes (.bin o x y) = 1 + (nodes x + nodes y) := rfl
    have hx1 := (fmtw_mono (Nat.le_refl o.lev) x).2.2
    have hy1 := (fmtw_mono (Nat.le_refl (o.lev + 1)) y).2.2
    refine ifF rfl fun p hp => ⟨upd_same, symTab, rfl, by decide, ?_⟩
    rw [upd_upd]
    have sm3 : Same Hz8 (upd Hz8 p (.dK (mergeK [] symTab))) := Same.new hp
    have hp1 : (upd Hz8 p (.dK (mergeK [] symTab))) p = some (.dK (mergeK [] symTab)) := upd_same
    generalize upd Hz8 p (.dK (mergeK [] symTab)) = H3 at sm3 hp1
    have sm := (smz6.trans smz8).trans sm3
    have hg : DGet H3 p (.str (bw o)) (some (.str (S [32, o.sym, 32]))) := by
      have q := DGet.k (k := .inr (bw o)) hp1
      rw [sym_tab] at q
      exact q
    refine ⟨_, rfl, p, _, rfl, hg, ?_⟩
    have hb3 := sm3 _ _ hb
    have tr : TreeAt H3 (.ref b) (.bin o x y) := ⟨b, c, d, rfl, hb3, hx.kt sm.kt, hy.kt sm.kt⟩
    refine ⟨_, rfl, _, _, rfl, tr, fun H4 sm4 => ?_⟩
    have hb4 := sm4 _ _ hb3
    have sm := sm.trans sm4
    refine ⟨_, rfl, b, _, _, _, rfl, rfl, SqT.of hb4, at_of (j := 1) rfl rfl, _, rfl, c, x, o.lev, rfl, hx.kt sm.kt, ok.1, by omega, by omega, fun H5 sm5 => ⟨_, rfl, _, _, rfl, rfl, by (simp only [S_cat, S_len, List.length_append, List.length_cons, List.length_nil] at hl ⊢; exact szL (by omega)), ?_⟩⟩
    rw [S_cat]
    have sm6 := sm.trans sm5
    refine ⟨_, rfl, b, _, _, _, rfl, rfl, SqT.of (sm5 _ _ hb4), at_of (j := 2) rfl rfl, _, rfl, _, _, rfl, rfl, d, y, o.lev + 1, rfl, hy.kt sm6.kt, ok.2, by omega, by omega, fun H7 sm7 => ⟨_, _, rfl, rfl, by (simp only [S_cat, S_len, List.length_append, List.length_cons, List.length_nil] at hl ⊢; exact szL (by omega)), ?_⟩⟩
    rw [S_cat]
    exact fin_str (k1 _ (sm6.trans sm7)) (by rw [ef]; simp)
theorem Cal.mono {CX : CXT} {j k : Nat} {x : Str} {sp : Sp} (c : Cal P w K mg base CX j x sp) (h : j ≤ k) : Cal P w K mg base CX k x sp := by
  obtain ⟨f, fd, ps, F, r⟩ := c.ex
  exact ⟨f, fd, ps, F.mono h, r⟩
open D50 in
theorem c__law_text (T : Txt w K mg a) : ∀ n, Cal P w K mg base L2.CX0 (2 + 2 * n) "_law_text" (spLTx n)
  | 0 => by
    refine cal0 (k := 1) T.d50 S (fun vs H Q E h => ?_) (fun _ _ _ _ _ _ us hl => match us, hl with | [_], _ => rfl) (fun f cdv A outer s H vs Q E hr h => ?_)
    · obtain ⟨u, _, rfl, _⟩ := h; rfl
    · obtain ⟨u, T1, rfl, _, _, h, _⟩ := h
      exfalso
      have := nodes_subs T1
      omega
  | n + 1 => by
    have c := c__law_text T n
    have h0 : 1 ≤ 2 + 2 * n := by omega
    have c1 := c__law_operand T n (2 + 2 * n) h0 c
    have h2 : 2 ≤ 2 + 2 * n + 1 := by omega
    exact c__law_text_step T n (2 + 2 * n + 1) h2 (c.mono (Nat.le_succ _)) c1
end Rb
set_option maxRecDepth 100000
set_option maxHeartbeats 4000000
namespace Rb
open PySem PySem.Spec PyProof.Rows L2 SX RbR
open TL (numL)
variable {P : Program} {w : World} {K : PySem.W.Frag} {mg : Str → Option Value} {base : Heap} {a : Ads}
def is1 : Tm → Bool
  | .neg _ => true | .pow _ _ => true | .sums _ _ => true | .prods _ _ => true | .dist _ => true | _ => false
theorem w_leaf2 (T : Tm) : inV (.str (word T)) [.str "name", .str "list", .str "unity", .str "roots"] = leaf T := by
  cases T with
  | bin o _ _ => cases o <;> rfl
  | _ => rfl
theorem w_is1 (T : Tm) : inV (.str (word T)) [.str "negative", .str "power", .str "sums", .str "products", .str "distinct"] = is1 T := by
  cases T with
  | bin o _ _ => cases o <;> rfl
  | _ => rfl
/-- the sub-trees stand in the tuple -/
theorem tree_subs {H : Hp} {v : V} {T : Tm} {b : Addr} {us : List V} (h : TreeAt H v T) (e : v = .ref b) (hb : H b = some (.tup (.str (word T) :: us))) (hl : leaf T = false) :
    (is1 T = true ∧ ∃ u x, us[0]? = some u ∧ subs T = [x] ∧ TreeAt H u x) ∨ (is1 T = false ∧ isMap T = true ∧ ∃ u x, us[1]? = some u ∧ subs T = [x] ∧ TreeAt H u x) ∨
    (is1 T = false ∧ isMap T = false ∧ ∃ u v x y, us[0]? = some u ∧ us[1]? = some v ∧ subs T = [x, y] ∧ TreeAt H u x ∧ TreeAt H v y) := by
  have ha := tree_args h e hb ⟨fun s e => (by subst e; cases hl), fun q e => (by subst e; cases hl)⟩
  cases T with
  | name _ => cases hl
  | list _ => cases hl
  | roots _ => cases hl
  | unity _ => cases hl
  | bin o x y => cases ha with | cons h1 r => cases r with | cons h2 r => exact .inr (.inr ⟨rfl, rfl, _, _, x, y, rfl, rfl, rfl, h1, h2⟩)
  | neg x => cases ha with | cons h1 r => exact .inl ⟨rfl, _, x, rfl, rfl, h1⟩
  | pow x n => cases ha with | cons h1 r => exact .inl ⟨rfl, _, x, rfl, rfl, h1⟩
  | map p x => cases ha with | cons h1 r => cases r with | cons h2 r => exact .inr (.inl ⟨rfl, rfl, _, x, rfl, rfl, h2⟩)
  | sums x n => cases ha with | cons h1 r => exact .inl ⟨rfl, _, x, rfl, rfl, h1⟩
  | prods x n => cases ha with | cons h1 r => exact .inl ⟨rfl, _, x, rfl, rfl, h1⟩
  | dist x => cases ha with | cons h1 r => exact .inl ⟨rfl, _, x, rfl, rfl, h1⟩
  | comm x y => cases ha with | cons h1 r => cases r with | cons h2 r => exact .inr (.inr ⟨rfl, rfl, _, _, x, y, rfl, rfl, rfl, h1, h2⟩)
  | wout x y => cases ha with | cons h1 r => cases r with | cons h2 r => exact .inr (.inr ⟨rfl, rfl, _, _, x, y, rfl, rfl, rfl, h1, h2⟩)
namespace D51
abbrev ST : Stmt := top 51
abbrev NS : List Str := ["_law_tree_here"]
theorem S : FnScope NS ["_law_tree_here"] (defScope ST) := ⟨rfl, rfl, rfl, by decide +kernel, rfl, by decide +kernel, by decide +kernel⟩
end D51
open D51 in
theorem c__law_parts (T : Txt w K mg a) : Cal P w K mg base L2.CX0 1 "_law_parts" spParts := by
  refine cal0 T.d51 S (fun vs H Q E h => ?_) (fun _ _ _ _ _ _ us hl => match us, hl with | [_], _ => rfl) (fun f cdv A outer s H vs Q E hr h => ?_)
  · obtain ⟨x, _, rfl, _⟩ := h; rfl
  obtain ⟨u, T1, rfl, ht, k⟩ := h
  refine ⟨_, (pss_cons (ps_if (pt_cmpR op_in_seq (pe_ix ix_tup (pv 0) pe_int (fun _ _ => rfl)) (pe_lst (pa_cons pe_str (pa_cons pe_str (pa_cons pe_str (pa_cons pe_str pa_nil))))) rfl)
    (pss_one (ps_ret (pe_lst pa_nil)))
    pss_nil)
  (pss_cons (ps_if (pt_cmpR op_in_seq (pe_ix ix_tup (pv 0) pe_int (fun _ _ => rfl)) (pe_lst (pa_cons pe_str (pa_cons pe_str (pa_cons pe_str (pa_cons pe_str (pa_cons pe_str pa_nil)))))) rfl)
    (pss_one (ps_ret (pe_lst (pa_cons (pe_ix ix_tup (pv 0) pe_int (fun _ _ => rfl)) pa_nil))))
    pss_nil)
  (pss_one (ps_ret (pe_ifExp (pt_cmpR op_eq (pe_ix ix_tup (pv 0) pe_int (fun _ _ => rfl)) pe_str (nomark _)) (pe_lst (pa_cons (pe_ix ix_tup (pv 0) pe_int (fun _ _ => rfl)) pa_nil)) (pe_lst (pa_cons (pe_ix ix_tup (pv 0) pe_int (fun _ _ => rfl)) (pa_cons (pe_ix ix_tup (pv 0) pe_int (fun _ _ => rfl)) pa_nil)))))))), ?_⟩
  obtain ⟨b, us, rfl, hb, hus⟩ := tree_shape ht
  refine ⟨_, rfl, b, _, _, _, rfl, rfl, SqT.of hb, at_of (j := 0) rfl rfl, by decide, fun p hp => ⟨p, _, rfl, .inl (SqL.of upd_same), rfl, rfl, _, rfl, ?_⟩⟩
  rw [w_leaf2]
  have sm1 : Same H (upd H p (.lst [V.str "name", .str "list", .str "unity", .str "roots"])) := Same.new hp
  generalize upd H p (.lst [V.str "name", .str "list", .str "unity", .str "roots"]) = H1 at sm1
  have hb1 := sm1 _ _ hb
  have one : (1 : Nat) ≤ sizeLine := by decide
  have two : (2 : Nat) ≤ sizeLine := by decide
  cases hl : leaf T1 with
  | true =>
    refine ifT rfl ⟨by decide, fun q hq => k _ q [] (sm1.trans (Same.new hq)) (new_none sm1 hq) upd_same ?_ (by simp)⟩
    unfold subs
    rw [if_pos hl]
    exact .nil
  | false =>
    have hsub := tree_subs ht rfl hb hl
    refine ifF rfl ⟨_, rfl, b, _, _, _, rfl, rfl, SqT.of hb1, at_of (j := 0) rfl rfl, by decide, fun p2 hp2 => ⟨p2, _, rfl, .inl (SqL.of upd_same), rfl, rfl, _, rfl, ?_⟩⟩
    rw [w_is1]
    have sm2 : Same H1 (upd H1 p2 (.lst [V.str "negative", .str "power", .str "sums", .str "products", .str "distinct"])) := Same.new hp2
    generalize upd H1 p2 (.lst [V.str "negative", .str "power", .str "sums", .str "products", .str "distinct"]) = H2 at sm2
    have hb2 := sm2 _ _ hb1
    have sm := sm1.trans sm2
    rcases hsub with ⟨h1, u, x, hu, hs, hx⟩ | ⟨h1, h2, u, x, hu, hs, hx⟩ | ⟨h1, h2, u, v, x, y, hu, hv, hs, hx, hy⟩
    · refine ifT h1 ⟨_, rfl, b, _, _, u, rfl, rfl, SqT.of hb2, at_of (j := 1) rfl (by rw [List.getElem?_cons_succ]; exact hu), one, fun q hq => k _ q [u] (sm.trans (Same.new hq)) (new_none sm hq) upd_same ?_ (by simp)⟩
      rw [hs]
      exact .cons (hx.kt (sm.trans (Same.new hq)).kt) .nil
    · refine ifF h1 ⟨_, rfl, b, _, _, _, rfl, rfl, SqT.of hb2, at_of (j := 0) rfl rfl, rfl, _, rfl, ?_⟩
      rw [w_map]
      refine ifT h2 ⟨_, rfl, b, _, _, u, rfl, rfl, SqT.of hb2, at_of (j := 2) rfl (by rw [List.getElem?_cons_succ]; exact hu), one, fun q hq => k _ q [u] (sm.trans (Same.new hq)) (new_none sm hq) upd_same ?_ (by simp)⟩
      rw [hs]
      exact .cons (hx.kt (sm.trans (Same.new hq)).kt) .nil
    · refine ifF h1 ⟨_, rfl, b, _, _, _, rfl, rfl, SqT.of hb2, at_of (j := 0) rfl rfl, rfl, _, rfl, ?_⟩
      rw [w_map]
      refine ifF h2 ⟨_, rfl, b, _, _, u, rfl, rfl, SqT.of hb2, at_of (j := 1) rfl (by rw [List.getElem?_cons_succ]; exact hu), _, rfl, b, _, _, v, rfl, rfl, SqT.of hb2, at_of (j := 2) rfl (by rw [List.getElem?_cons_succ]; exact hv), two, fun q hq => k _ q [u, v] (sm.trans (Same.new hq)) (new_none sm hq) upd_same ?_ (by simp)⟩
      rw [hs]
      exact .cons (hx.kt (sm.trans (Same.new hq)).kt) (.cons (hy.kt (sm.trans (Same.new hq)).kt) .nil)
namespace D52
abbrev ST : Stmt := top 52
abbrev NS : List Str := ["_law_tree_here", "_law_part"]
theorem S : FnScope NS ["_law_tree_here"] (defScope ST) := ⟨rfl, rfl, rfl, by decide +kernel, rfl, by decide +kernel, by decide +kernel⟩
end D52
open D52 in
theorem c__law_nodes (T : Txt w K mg a) : ∀ n, Cal P w K mg base L2.CX0 (2 + n) "_law_nodes" (spCount n)
  | 0 => by
    refine cal0 T.d52 S (fun vs H Q E h => ?_) (fun _ _ _ _ _ _ us hl => match us, hl with | [_], _ => rfl) (fun f cdv A outer s H vs Q E hr h => ?_)
    · obtain ⟨u, _, rfl, _⟩ := h; rfl
    · obtain ⟨u, T1, rfl, _, h, _⟩ := h
      exfalso
      have := nodes_subs T1
      omega
  | n + 1 => by
    have c__law_parts := c__law_parts (P := P) (base := base) T
    have c__law_nodes := c__law_nodes T n
    refine cal0 (k := 2 + n) T.d52 S (fun vs H Q E h => ?_) (fun _ _ _ _ _ _ us hl => match us, hl with | [_], _ => rfl) (fun f cdv A outer s H vs Q E hr h => ?_)
    · obtain ⟨u, _, rfl, _⟩ := h; rfl
    obtain ⟨u, T1, rfl, ht, hn, k⟩ := h
    refine ⟨_, (pss_one (ps_ret (pe_op op_add pe_int (pe_callB (cr_sum rfl) rfl T.bSum (by decide +kernel) (pa_cons (pe_lc (own := [("_law_part", 1)]) (g := (gName 1)) (tt := tYes) rfl S.nd (pi_list (pe_k c__law_parts hr (by omega) rfl L2.pass0 (pa_cons (pv 0) pa_nil))) (blkOk_by (N := NS) (sc := defScope ST) (by decide +kernel)) (fun _ _ _ _ _ => pg_name (i := 1) S.nd rfl (Or.inl rfl)) (fun _ _ _ _ _ => pts_nil) (fun _ _ _ _ _ => (pe_k c__law_nodes hr (by omega) rfl L2.pass0 (pa_cons (pv 1) pa_nil)))) pa_nil))))), ?_⟩
    refine ⟨_, rfl, u, T1, rfl, ht, fun H1 l us sm hl hl1 hp hus => ⟨l, rfl, ⟨us, SqL.of hl1⟩, fun D hD => lc_list (K := K) (a := l) (xs := us) (fun i H' => Same H1 H' ∧ H' D = some (.lst (((subs T1).take i).map fun t => V.int (nodes t : Nat)))) ⟨Same.new hD, upd_same⟩ (fun i H' _ h' => SqL.of (h'.1 l _ hl1)) ?_ ?_⟩⟩
    · intro i x H' hi ⟨sm', hD'⟩
      obtain ⟨t, hq, hx⟩ := paired_get hp hi
      have hmem : t ∈ subs T1 := List.mem_of_getElem? hq
      have h1 := sum_mem hmem
      have h2 := nodes_subs T1
      have hil : i < us.length := by
        obtain ⟨z, _⟩ := List.getElem?_eq_some_iff.mp hi
        exact z
      refine ⟨rfl, _, rfl, x, t, rfl, hx.kt sm'.kt, by omega, fun H2 sm2 => ⟨_, sm2 _ _ hD', ?_, (sm'.trans sm2).aw hD, ?_⟩⟩
      · rw [List.length_map, List.length_take]
        exact szLt (by omega)
      · rw [upd_same, List.take_add_one, hq]
        simp
    · rintro H' ⟨sm', hD'⟩
      rw [Paired.length hp, List.take_length] at hD'
      refine ⟨D, (subs T1).map fun t => (nodes t : Int), rfl, SqL.of ?_, _, _, rfl, rfl, ?_⟩
      · rw [hD', List.map_map]; rfl
      · rw [sum_cast]
        have h2 := nodes_subs T1
        have e : (1 : Int) + (((subs T1).map nodes).sum : Nat) = (nodes T1 : Nat) := by omega
        show Q (.int ((1 : Int) + (((subs T1).map nodes).sum : Nat))) H'
        rw [e]
        exact k H' (sm.trans sm')
end Rb
set_option maxRecDepth 100000
set_option maxHeartbeats 4000000
namespace Rb
open PySem PySem.Spec PyProof.Rows L2 SX RbR
open TL (numL)
variable {P : Program} {w : World} {K : PySem.W.Frag} {mg : Str → Option Value} {base : Heap} {a : Ads}
def spWant : Sp := fun vs H Q _ => ∃ (g : Addr × Addr) (d : Nat) (nm : Addr) (names : List Tx), vs = [.ref g.1, .int (d : Nat), .ref nm] ∧ 1 ≤ d ∧ d ≤ 5 ∧ Rng H g ∧ Nms H nm names ∧ nm ≠ g.1 ∧
  ∀ u T H', But g.1 H H' → Rng H' g → TreeAt H' u T → Ok T → pd T ≤ 5 → nodes T ≤ 24 → (fmt T).length ≤ 119 → Q u H'
namespace D54
abbrev ST : Stmt := top 54
abbrev NS : List Str := ["_law_rng", "_law_deep", "_law_names", "_law_tree_here"]
theorem S : FnScope NS ["_law_rng", "_law_deep", "_law_names"] (defScope ST) := ⟨rfl, rfl, rfl, by decide +kernel, rfl, by decide +kernel, by decide +kernel⟩
end D54
open D54 in
theorem c__law_wanted_tree (T : Txt w K mg a) : Cal P w K mg base L2.CX0 65 "_law_wanted_tree" spWant := by
  have c__law_tree := c__law_tree (P := P) (base := base) T 5
  have c__law_text := c__law_text (P := P) (base := base) T 31
  have c__law_nodes := c__law_nodes (P := P) (base := base) T 31
  refine cal0 (k := 64) T.d54 S (fun vs H Q E h => ?_) (fun _ _ _ _ _ _ us hl => match us, hl with | [_, _, _], _ => rfl) (fun f cdv A outer s H vs Q E hr h => ?_)
  · obtain ⟨_, _, _, _, rfl, _⟩ := h; rfl
  obtain ⟨g, d, nm, names, rfl, h1, h5, rn, hnm, hne, k⟩ := h
  refine ⟨_, (pss_cons (ps_set (i := 3) S.nd rfl (Or.inl rfl) (pe_k c__law_tree hr (by omega) rfl L2.pass0 (pa_cons (pv 0) (pa_cons (pv 1) (pa_cons (pv 2) pa_nil)))))
  (pss_one (ps_ret (pe_ifExp (PW.pt (pw_and (pt_cmpR op_lt (pe_callB call_len_str rfl T.bLen (by decide +kernel) (pa_cons (pe_k c__law_text hr (by omega) rfl L2.pass0 (pa_cons (pv 3) pa_nil)) pa_nil)) pe_int (nomark _)) (pw_and1 (pt_cmpR op_lt (pe_k c__law_nodes hr (by omega) rfl L2.pass0 (pa_cons (pv 3) pa_nil)) pe_int (nomark _))))) (pv 3) (pe_tup (pa_cons pe_str (pa_cons (pe_ix ix_list (pv 2) pe_int (fun _ _ => rfl)) pa_nil))))))), ?_⟩
  refine ⟨_, rfl, _, rfl, _, rfl, g, d, nm, names, rfl, h1, h5, rn, hnm, hne, fun u T1 H1 b1 rn1 ht hd => ?_⟩
  obtain ⟨ok, hp, hn, hl⟩ := hd.mono h5
  have hn : nodes T1 + 1 ≤ 32 := hn
  have oth : ∀ H', Same H1 H' → ∀ q, H' q = none → ∀ s0, names[0]? = some s0 → Q (.ref q) (upd H' q (.tup [.str "name", .str (S s0)])) := fun H' sm q hq s0 hs => by
    have sm2 : Same H1 (upd H' q (.tup [.str "name", .str (S s0)])) := sm.trans (Same.new hq)
    have hm := hnm.2.2.2 s0 (List.mem_of_getElem? hs)
    have hm8 : s0.length ≤ 8 := hm.2.1
    exact k _ (.name s0) _ (b1.same sm2) (rn1.same sm2) ⟨q, rfl, upd_same⟩ hm (Nat.zero_le _) (by show 1 ≤ 24; decide) (by show s0.length ≤ 119; omega)
  obtain ⟨s0, hs0⟩ : ∃ s0, names[0]? = some s0 := ⟨names[0]'hnm.2.1, List.getElem?_eq_getElem hnm.2.1⟩
  have hv0 : (names.map fun s => V.str (S s))[0]? = some (.str (S s0)) := by rw [List.getElem?_map, hs0]; rfl
  have two : (2 : Nat) ≤ sizeLine := by decide
  have hnm1 : H1 nm = some (.lst (names.map fun s => V.str (S s))) := b1 _ _ hne hnm.1
  refine ⟨_, rfl, u, T1, rfl, ht, ok, by omega, by omega, fun H2 sm2 => ⟨S (fmt T1), rfl, by rw [S_len]; exact szL (by omega), _, _, rfl, rfl, _, rfl, ?_⟩⟩
  rw [S_len]
  by_cases hl2 : (fmt T1).length < 120
  · refine ifT (decide_eq_true (by omega)) ⟨_, rfl, u, T1, rfl, ht.kt sm2.kt, by omega, fun H3 sm3 => ⟨_, _, rfl, rfl, _, rfl, ?_⟩⟩
    have sm := sm2.trans sm3
    by_cases hn2 : nodes T1 < 25
    · exact ifT (decide_eq_true (by omega)) ⟨_, rfl, k _ T1 _ (b1.same sm) (rn1.same sm) (ht.kt sm.kt) ok hp (by omega) (by omega)⟩
    · exact ifF (decide_eq_false (by omega)) ⟨_, rfl, nm, _, _, _, rfl, rfl, SqL.of (sm _ _ hnm1), at_of (j := 0) rfl hv0, two, fun q hq => oth _ sm q hq s0 hs0⟩
  · exact ifF (decide_eq_false (by omega)) (ifF rfl ⟨_, rfl, nm, _, _, _, rfl, rfl, SqL.of (sm2 _ _ hnm1), at_of (j := 0) rfl hv0, two, fun q hq => oth _ sm2 q hq s0 hs0⟩)
/-! ### a bent text -/
def spBent : Sp := fun vs H Q _ => ∃ (g : Addr × Addr) (t : Tx) (sl : Addr) (sg : List Tx), vs = [.ref g.1, .str (S t), .ref sl] ∧ t.length ≤ 1000 ∧ Rng H g ∧ H sl = some (.lst (sg.map fun s => V.str (S s))) ∧ sl ≠ g.1 ∧ 0 < sg.length ∧ sg.length < 1000 ∧ (∀ s ∈ sg, s.length ≤ 2) ∧
  ∀ t' H', But g.1 H H' → Rng H' g → t'.length ≤ t.length + 2 → Q (.str (S t')) H'
namespace D55
abbrev ST : Stmt := top 55
abbrev NS : List Str := ["_law_rng", "_law_text_here", "_law_signs", "_law_at", "_law_way", "_law_sign"]
theorem S : FnScope NS ["_law_rng", "_law_text_here", "_law_signs"] (defScope ST) := ⟨rfl, rfl, rfl, by decide +kernel, rfl, by decide +kernel, by decide +kernel⟩
end D55
open D55 in
theorem c__law_bent_text (T : Txt w K mg a) : Cal P w K mg base L2.CX0 3 "_law_bent_text" spBent := by
  have c__law_draw := c__law_draw (P := P) (base := base) T
  have c__law_pick := c__law_pick (P := P) (base := base) T
  refine cal0 (k := 2) T.d55 S (fun vs H Q E h => ?_) (fun _ _ _ _ _ _ us hl => match us, hl with | [_, _, _], _ => rfl) (fun f cdv A outer s H vs Q E hr h => ?_)
  · obtain ⟨_, _, _, _, rfl, _⟩ := h; rfl
  obtain ⟨g, t, sl, sg, rfl, hl, rn, hsl, hne, h0, hm, hs2, k⟩ := h
  refine ⟨_, (pss_cons (ps_par (i := 3) (j := 4) rfl S.nd rfl rfl (by decide) rfl rfl (pa_cons (pe_k c__law_draw hr (by omega) rfl L2.pass0 (pa_cons (pv 0) (pa_cons (pe_op op_add (pe_callB call_len_str rfl T.bLen (by decide +kernel) (pa_cons (pv 1) pa_nil)) pe_int) pa_nil))) (pa_cons (pe_k c__law_draw hr (by omega) rfl L2.pass0 (pa_cons (pv 0) (pa_cons pe_int pa_nil))) pa_nil)) rfl)
  (pss_cons (ps_set (i := 5) S.nd rfl (Or.inl rfl) (pe_k c__law_pick hr (by omega) rfl L2.pass0 (pa_cons (pv 0) (pa_cons (pv 2) pa_nil))))
  (pss_cons (ps_if (pt_cmpR op_eq (pv 4) pe_int (nomark _))
    (pss_one (ps_ret (pe_op op_add_str (pe_op op_add_str (pe_slice sl_str (pv 1) po_none (po_some (pv 3))) (pv 5)) (pe_slice sl_str (pv 1) (po_some (pv 3)) po_none))))
    pss_nil)
  (pss_cons (ps_if (pt_cmpR op_eq (pv 4) pe_int (nomark _))
    (pss_one (ps_ret (pe_op op_add_str (pe_slice sl_str (pv 1) po_none (po_some (pv 3))) (pe_slice sl_str (pv 1) (po_some (pe_op op_add (pv 3) pe_int)) po_none))))
    pss_nil)
  (pss_one (ps_ret (pe_op op_add_str (pe_op op_add_str (pe_slice sl_str (pv 1) po_none (po_some (pv 3))) (pv 5)) (pe_slice sl_str (pv 1) (po_some (pe_op op_add (pv 3) pe_int)) po_none)))))))), ?_⟩
  have hz : (S t).length ≤ sizeLine := by rw [S_len]; exact szL (by omega)
  refine ⟨_, rfl, _, rfl, S t, rfl, hz, _, _, rfl, rfl, g, t.length + 1, by rw [S_len]; rfl, by omega, by omega, rn, fun r H1 hr1 b1 rn1 => ?_⟩
  refine ⟨_, rfl, g, 3, rfl, by decide, by decide, rn1, fun r2 H2 hr2 b2 rn2 => ?_⟩
  refine ⟨_, _, rfl, _, rfl, _, rfl, g, sl, _, rfl, rn2, b2 _ _ hne (b1 _ _ hne hsl), hne, by rw [List.length_map]; exact h0, by rw [List.length_map]; exact hm, fun i v H3 hv b3 rn3 => ?_⟩
  rw [List.getElem?_map] at hv
  cases hs : sg[i]? with
  | none => rw [hs] at hv; cases hv
  | some s0 =>
  rw [hs] at hv
  cases hv
  have hs0 := hs2 s0 (List.mem_of_getElem? hs)
  have bb := (b1.trans b2).trans b3
  have l1 : (t.take r).length ≤ t.length := by rw [List.length_take]; exact Nat.min_le_right _ _
  have l2 : ∀ n, (t.drop n).length ≤ t.length := fun n => by rw [List.length_drop]; omega
  have l3 : (t.take r).length + (t.drop r).length = t.length := by rw [← List.length_append, List.take_append_drop]
  have l4 : (t.drop (r + 1)).length ≤ (t.drop r).length := by rw [List.length_drop, List.length_drop]; omega
  have e1 : ((r : Nat) : Int) + 1 = ((r + 1 : Nat) : Int) := by omega
  refine ⟨_, rfl, rfl, _, rfl, if2 (fun _ => ?_) (fun _ => ⟨_, rfl, rfl, _, rfl, if2 (fun _ => ?_) (fun _ => ?_)⟩)⟩
  · refine ⟨_, rfl, _, rfl, _, rfl, _, rfl, hz, _, rfl, ?_⟩
    rw [cutS_to]
    refine ⟨_, _, rfl, rfl, by rw [S_len, S_len]; exact szL (by omega), ?_⟩
    rw [S_cat]
    refine ⟨_, rfl, _, rfl, _, rfl, _, rfl, hz, ?_⟩
    rw [cutS_from]
    refine ⟨_, _, rfl, rfl, by rw [S_len, S_len, List.length_append]; exact szL (by omega), ?_⟩
    rw [S_cat]
    exact k _ _ bb rn3 (by rw [List.length_append, List.length_append]; omega)
  · refine ⟨_, rfl, _, rfl, _, rfl, _, rfl, hz, ?_⟩
    rw [cutS_to]
    refine ⟨_, rfl, _, rfl, _, _, rfl, rfl, _, rfl, _, rfl, hz, ?_⟩
    rw [e1, cutS_from]
    refine ⟨_, _, rfl, rfl, by rw [S_len, S_len]; exact szL (by have := l2 (r + 1); omega), ?_⟩
    rw [S_cat]
    exact k _ _ bb rn3 (by rw [List.length_append]; omega)
  · refine ⟨_, rfl, _, rfl, _, rfl, _, rfl, hz, _, rfl, ?_⟩
    rw [cutS_to]
    refine ⟨_, _, rfl, rfl, by rw [S_len, S_len]; exact szL (by omega), ?_⟩
    rw [S_cat]
    refine ⟨_, rfl, _, rfl, _, _, rfl, rfl, _, rfl, _, rfl, hz, ?_⟩
    rw [e1, cutS_from]
    refine ⟨_, _, rfl, rfl, by rw [S_len, S_len, List.length_append]; exact szL (by omega), ?_⟩
    rw [S_cat]
    exact k _ _ bb rn3 (by rw [List.length_append, List.length_append]; omega)
end Rb
set_option maxRecDepth 100000
set_option maxHeartbeats 4000000
namespace Rb
open PySem PySem.Spec PyProof.Rows L2 SX RbR
open TL (numL)
variable {P : Program} {w : World} {K : PySem.W.Frag} {mg : Str → Option Value} {base : Heap} {a : Ads}
theorem sql_same {H H' : Hp} {c : Addr} {xs : List V} (s : Same H H') (h : SqL K H c xs) : SqL K H' c xs := by
  rcases h with (h | ⟨o, h⟩) | h
  · exact .inl (.inl (s _ _ h))
  · exact .inl (.inr ⟨o, s _ _ h⟩)
  · exact .inr h
def spDraws (K : PySem.W.Frag) : Sp := fun vs H Q _ => ∃ (c : Addr) (ns : List Int), vs = [.ref c] ∧ SqL K H c (ns.map V.int) ∧ ∀ H' g, Same H H' → Rng H' g → H g.1 = none → Q (.ref g.1) H'
namespace D36
abbrev ST : Stmt := top 36
abbrev NS : List Str := ["_law_script", "_law_salt", "_law_cell"]
theorem S : FnScope NS ["_law_script"] (defScope ST) := ⟨rfl, rfl, rfl, by decide +kernel, rfl, by decide +kernel, by decide +kernel⟩
end D36
open D36 in
theorem c__law_draws (T : Txt w K mg a) : Cal P w K mg base L2.CX0 1 "_law_draws" (spDraws K) := by
  refine cal0 T.d36 S (fun vs H Q E h => ?_) (fun _ _ _ _ _ _ us hl => match us, hl with | [_], _ => rfl) (fun f cdv A outer s H vs Q E hr h => ?_)
  · obtain ⟨_, _, rfl, _⟩ := h; rfl
  obtain ⟨c, ns, rfl, hc, k⟩ := h
  refine ⟨_, (pss_cons (ps_set (i := 1) S.nd rfl (Or.inl rfl) pe_int)
  (pss_cons (ps_for PassesOwn.never rfl (pi_list (pe_slice sl_list (pv 0) po_none (po_some pe_int))) (pg_name (i := 2) S.nd rfl (Or.inl rfl))
    (pss_one (ps_set (i := 1) S.nd rfl (Or.inl rfl) (pe_op op_mod (pe_op op_add (pe_op op_add (pe_op op_mul (pv 1) pe_int) (pe_op op_mod (pv 2) pe_int)) pe_int) pe_int))))
  (pss_one (ps_ret (pe_lst (pa_cons (pe_callTy call_list_of rfl T.bLst (by decide +kernel) (pa_cons (pe_slice sl_list (pv 0) po_none (po_some pe_int)) pa_nil)) (pa_cons pe_int (pa_cons pe_int (pa_cons (pv 1) pa_nil))))))))), ?_⟩
  refine ⟨_, rfl, _, rfl, c, _, rfl, hc, fun p hp => ⟨p, rfl, ⟨_, SqL.of upd_same⟩, ?_⟩⟩
  have hcut : cutV (ns.map V.int) none (some ((63 : Nat) : Int)) = (ns.take 63).map V.int := by rw [cut_to, List.map_take]
  have sm1 : Same H (upd H p (.lst (cutV (ns.map V.int) none (some 63)))) := Same.new hp
  have hp1 : (upd H p (.lst (cutV (ns.map V.int) none (some 63)))) p = some (.lst ((ns.take 63).map V.int)) := by rw [upd_same]; exact congrArg (fun z => some (HO.lst z)) hcut
  generalize upd H p (.lst (cutV (ns.map V.int) none (some 63))) = H1 at sm1 hp1
  generalize ns.take 63 = ms at hp1
  refine ⟨fun i m σ H' => m = ms.length - i ∧ i ≤ ms.length ∧ H' = H1 ∧ ∃ (salt : Int) (c2 : Option V), σ = [some (.ref c), some (.int salt), c2], ⟨_, rfl, Nat.zero_le _, rfl, _, _, rfl⟩, ?_⟩
  rintro i m σ H' ⟨rfl, hi, rfl, salt, c2, rfl⟩
  by_cases hlt : i < ms.length
  · refine .inr ⟨⟨_, .int ms[i], SqL.of hp1, by rw [List.getElem?_map, List.getElem?_eq_getElem hlt]; rfl⟩, fun σ' H2 => H2 = H' ∧ ∃ (salt : Int) (c2 : Option V), σ' = [some (.ref c), some (.int salt), c2], fun σ' H2 ⟨q1, q2⟩ => ⟨_, by omega, rfl, hlt, q1, q2⟩, ?_⟩
    rintro x H2 ⟨rfl, hx⟩
    have e := hx _ (SqL.of hp1)
    rw [List.getElem?_map, List.getElem?_eq_getElem hlt] at e
    cases e
    refine ⟨_, rfl, _, _, rfl, rfl, .inr ⟨by decide, by decide⟩, _, rfl, _, _, rfl, rfl, (show (0 : Int) < 2147483579 by decide), _, _, rfl, rfl, _, _, rfl, rfl, _, _, rfl, rfl, (show (0 : Int) < 2147483647 by decide), rfl, _, _, rfl⟩
  · refine .inl ⟨⟨_, SqL.of hp1, by rw [List.length_map]; omega⟩, _, rfl, _, rfl, c, _, rfl, sql_same sm1 hc, fun p2 hp2 => ⟨p2, _, rfl, .inl (SqL.of upd_same), fun L hL => ⟨_, rfl, by show 4 ≤ sizeLine; decide, fun g hg => ?_⟩⟩⟩
    have sm2 : Same H' (upd H' p2 (.lst (cutV (ns.map V.int) none (some 63)))) := Same.new hp2
    have hcut2 : cutV (ns.map V.int) none (some 63) = (ns.take 63).map V.int := hcut
    have sm3 := (sm1.trans sm2).trans ((Same.new (o := .lst (cutV (ns.map V.int) none (some 63))) hL).trans (Same.new (o := .lst [.ref L, .int 0, .int 0, .int salt]) hg))
    refine k _ (g, L) sm3 ⟨ns.take 63, 0, 0, salt, upd_same, ?_⟩ ?_
    · show upd (upd _ L _) g _ L = _
      rw [upd_ne (fun z => by rw [z, upd_same] at hg; cases hg), upd_same, hcut2]
    · exact new_none ((sm1.trans sm2).trans (Same.new hL)) hg
/-! ### the names -/
theorem let_at {r : Nat} (h : r < 26) : ∃ c, lets[r]? = some c ∧ isL c = true := by
  have hl : r < lets.length := h
  refine ⟨lets[r], List.getElem?_eq_getElem hl, ?_⟩
  rw [← mem_let]
  exact decide_eq_true (List.getElem_mem hl)
theorem join_one : ∀ cs : Tx, TL.joinL [] (cs.map fun c => [c]) = cs
  | [] => rfl
  | [c] => rfl
  | c :: d :: r => by
    have ih := join_one (d :: r)
    show [c] ++ ([] ++ TL.joinL [] ((d :: r).map fun c => [c])) = _
    rw [ih]; rfl
theorem sum_one : ∀ cs : Tx, ((((cs.map fun c => [c]).map S).map (·.length))).sum = cs.length
  | [] => rfl
  | c :: r => by
    have ih := sum_one r
    rw [List.map_cons, List.map_cons, List.map_cons, List.sum_cons, ih, S_len]
    simp; omega
def spNames : Sp := fun vs H Q _ => ∃ (g : Addr × Addr), vs = [.ref g.1] ∧ Rng H g ∧ ∀ H' nm names, But g.1 H H' → Rng H' g → Nms H' nm names → nm ≠ g.1 → Q (.ref nm) H'
namespace D53
abbrev ST : Stmt := top 53
abbrev NS : List Str := ["_law_rng", "_law_letters", "_law_stem", "_law_k", "_law_at", "_law_start", "_law_found"]
theorem S : FnScope NS ["_law_rng"] (defScope ST) := ⟨rfl, rfl, rfl, by decide +kernel, rfl, by decide +kernel, by decide +kernel⟩
end D53
open D53 in
theorem c__law_term_names (T : Txt w K mg a) : Cal P w K mg base L2.CX0 2 "_law_term_names" spNames := by
  have c__law_draw := c__law_draw (P := P) (base := base) T
  refine cal0 T.d53 S (fun vs H Q E h => ?_) (fun _ _ _ _ _ _ us hl => match us, hl with | [_], _ => rfl) (fun f cdv A outer s H vs Q E hr h => ?_)
  · obtain ⟨_, rfl, _⟩ := h; rfl
  obtain ⟨g, rfl, rn, k⟩ := h
  refine ⟨_, (pss_cons (ps_set (i := 1) S.nd rfl (Or.inr rfl) pe_str)
  (pss_cons (ps_set (i := 2) S.nd rfl (Or.inr rfl) (pe_join pe_str (pe_lc (own := [("_law_k", 3)]) (g := (gName 3)) (tt := tYes) rfl S.nd (pi_range1 rfl T.bRng (pa_cons (pe_k c__law_draw hr (by omega) rfl L2.pass0 (pa_cons (pv 0) (pa_cons pe_int pa_nil))) pa_nil)) (blkOk_by (N := NS) (sc := defScope ST) (by decide +kernel)) (fun _ _ _ _ _ => pg_name (i := 3) S.nd rfl (Or.inl rfl)) (fun _ _ _ _ _ => pts_nil) (fun _ _ _ _ _ => (pe_ix ix_str (pv 1) (pe_k c__law_draw hr (by omega) rfl L2.pass0 (pa_cons (pv 0) (pa_cons pe_int pa_nil))) (fun _ _ => rfl))))))
  (pss_cons (ps_asg (pe_tup (pa_cons (pe_k c__law_draw hr (by omega) rfl L2.pass0 (pa_cons (pv 0) (pa_cons (pe_op op_add (pe_callB call_len_str rfl T.bLen (by decide +kernel) (pa_cons (pv 2) pa_nil)) pe_int) pa_nil))) (pa_cons (pe_k c__law_draw hr (by omega) rfl L2.pass0 (pa_cons (pv 0) (pa_cons pe_int pa_nil))) pa_nil))) (pg_tup rfl (pgs_cons (pg_name (i := 4) S.nd rfl (Or.inr rfl)) (pgs_cons (pg_name (i := 5) S.nd rfl (Or.inr rfl)) pgs_nil))))
  (pss_cons (ps_setLc (i := 6) (own := [("_law_k", 3)]) (g := (gName 3)) (tt := tYes) rfl S.nd rfl rfl (sw_true rfl rfl rfl (by decide +kernel)) (pi_range1 rfl T.bRng (pa_cons pe_int pa_nil)) (blkOk_by (N := NS) (sc := defScope ST) (by decide +kernel)) (fun _ _ _ _ _ => pg_name (i := 3) S.nd rfl (Or.inl rfl)) (fun _ _ _ _ _ => pts_nil) (fun _ _ _ _ _ => (pe_op op_add_str (pe_op op_add_str (pe_slice sl_str (pv 2) po_none (po_some (pv 4))) (pe_ix ix_str (pv 1) (pe_op op_mod (pe_op op_add (pv 5) (pe_op op_mul pe_int (pv 3))) pe_int) (fun _ _ => rfl))) (pe_slice sl_str (pv 2) (po_some (pv 4)) po_none))))
  (pss_one (ps_ret (pe_op op_cat (pe_slice sl_list (pv 6) po_none (po_some pe_int)) (pe_lst (pa_cons (pe_op op_add_str (pe_ix ix_list (pv 6) pe_int (fun _ _ => rfl)) (pe_op op_mul_sign pe_str (pe_k c__law_draw hr (by omega) rfl L2.pass0 (pa_cons (pv 0) (pa_cons pe_int pa_nil))))) pa_nil))))))))), ?_⟩
  refine ⟨⟨_, rfl⟩, _, rfl, g, 6, rfl, by decide, by decide, rn, fun n H1 hn b1 rn1 => ⟨_, rfl, by omega, by omega, fun D hD => ?_⟩⟩
  have hDg := free_ne rn1 hD
  refine ⟨fun i m H' => m = n - i ∧ i ≤ n ∧ ∃ cs : Tx, H' D = some (.lst (cs.map fun c => V.str (S [c]))) ∧ cs.length = i ∧ (∀ c ∈ cs, isL c = true) ∧ But g.1 H1 H' ∧ Rng H' g, ⟨_, rfl, Nat.zero_le _, [], upd_same, rfl, (fun c hc => by cases hc), (But.refl g.1 H1).new hD, rn1.same (Same.new hD)⟩, ?_⟩
  rintro i m H2 ⟨rfl, hi, cs, hcs, hcl, hca, b2, rn2⟩
  by_cases hlt : i < n
  · refine .inr ⟨by show i < _; omega, fun H' => ∃ cs : Tx, H' D = some (.lst (cs.map fun c => V.str (S [c]))) ∧ cs.length = i + 1 ∧ (∀ c ∈ cs, isL c = true) ∧ But g.1 H1 H' ∧ Rng H' g, fun H' q => ⟨_, by omega, rfl, hlt, q⟩, ?_⟩
    rintro x H3 ⟨rfl, rfl⟩
    refine ⟨rfl, _, rfl, _, rfl, g, 26, rfl, by decide, by decide, rn2, fun r H4 hr4 b4 rn4 => ?_⟩
    obtain ⟨c, hc, hcL⟩ := let_at hr4
    have hcs4 := b4 _ _ hDg.1 hcs
    refine ⟨S lets, _, c, by rw [e_let], rfl, by rw [S_len]; decide, by rw [tlS]; exact atI_nat hc, _, hcs4, ?_, cs ++ [c], by rw [upd_same]; simp, by simp; omega, fun z hz => ?_, (b2.trans b4).aw hD, rn4.other hDg⟩
    · rw [List.length_map]; exact szLt (by omega)
    · rcases List.mem_append.mp hz with hz | hz
      · exact hca z hz
      · rw [List.mem_singleton.mp hz]; exact hcL
  have hin : i = n := by omega
  refine .inl ⟨by show _ ≤ i; omega, S [], D, (cs.map fun c => [c]).map S, rfl, rfl, .inl (SqL.of ?_), ?_, ?_⟩
  · rw [hcs, List.map_map, List.map_map]; rfl
  · rw [sum_one, S_len, List.length_map, List.length_map]
    show _ + _ * 0 ≤ _
    omega
  rw [join_S, join_one]
  have hz : (S cs).length ≤ sizeLine := by rw [S_len]; exact szL (by omega)
  have two : (2 : Nat) ≤ sizeLine := by decide
  refine ⟨_, rfl, _, rfl, S cs, rfl, hz, _, _, rfl, rfl, g, cs.length + 1, by rw [S_len]; rfl, by omega, by omega, rn2, fun at_ H3 hat b3 rn3 => ⟨_, rfl, g, 26, rfl, by decide, by decide, rn3, fun st H4 hst b4 rn4 => ⟨two, fun q hq => ⟨q, _, rfl, SqT.of upd_same, rfl, ?_⟩⟩⟩⟩
  have rn5 := rn4.same (Same.new (o := .tup [.int (at_ : Nat), .int (st : Nat)]) hq)
  have b5 : But g.1 H (upd H4 q (.tup [.int (at_ : Nat), .int (st : Nat)])) := (((b1.trans b2).trans b3).trans b4).new hq
  generalize upd H4 q (.tup [.int (at_ : Nat), .int (st : Nat)]) = H5 at rn5 b5
  refine ⟨_, _, rfl, _, _, rfl, rfl, 3, rfl, by decide, by decide, fun D2 hD2 => ?_⟩
  have hD2g := free_ne rn5 hD2
  refine ⟨fun i m H' => m = 3 - i ∧ i ≤ 3 ∧ ∃ ys : List Tx, H' D2 = some (.lst (ys.map fun s => V.str (S s))) ∧ ys.length = i ∧ (∀ s ∈ ys, s ≠ [] ∧ s.length ≤ 6 ∧ ∀ c ∈ s, isL c = true) ∧ Same H5 H', ⟨_, rfl, by omega, [], upd_same, rfl, (fun s hs => by cases hs), Same.new hD2⟩, ?_⟩
  rintro i m H6 ⟨rfl, hi, ys, hys, hyl, hya, sm6⟩
  by_cases hlt : i < 3
  · refine .inr ⟨hlt, fun H' => ∃ ys : List Tx, H' D2 = some (.lst (ys.map fun s => V.str (S s))) ∧ ys.length = i + 1 ∧ (∀ s ∈ ys, s ≠ [] ∧ s.length ≤ 6 ∧ ∀ c ∈ s, isL c = true) ∧ Same H5 H', fun H' q => ⟨_, by omega, rfl, hlt, q⟩, ?_⟩
    rintro x H7 ⟨rfl, rfl⟩
    obtain ⟨r, er, hr26⟩ := mod_nat ((st : Int) + 9 * (0 + (i : Int))) 26 (by decide)
    obtain ⟨c, hc, hcL⟩ := let_at hr26
    have l3 : (cs.take at_).length + (cs.drop at_).length = cs.length := by rw [← List.length_append, List.take_append_drop]
    refine ⟨rfl, _, rfl, _, rfl, _, rfl, _, rfl, hz, _, rfl, _, rfl, _, rfl, _, _, rfl, rfl, .inl ⟨by decide, by decide⟩, _, _, rfl, rfl, _, _, rfl, rfl, (show (0 : Int) < 26 by decide), S lets, _, c, by rw [e_let], rfl, by rw [S_len]; decide, ?_, ?_⟩
    · rw [tlS]
      show atI lets (((st : Int) + 9 * (0 + (i : Int))) % ((26 : Nat) : Int)) = _
      rw [er]
      exact atI_nat hc
    rw [cutS_to]
    refine ⟨_, S [c], rfl, rfl, by rw [S_len, S_len]; exact szL (by simp; omega), ?_⟩
    rw [S_cat]
    refine ⟨_, rfl, _, rfl, _, rfl, _, rfl, hz, ?_⟩
    rw [cutS_from]
    refine ⟨_, _, rfl, rfl, by rw [S_len, S_len, List.length_append]; exact szL (by simp; omega), ?_⟩
    rw [S_cat]
    refine ⟨_, hys, by rw [List.length_map]; exact szLt (by omega), ys ++ [cs.take at_ ++ [c] ++ cs.drop at_], by rw [upd_same]; simp, by simp; omega, fun z hzz => ?_, sm6.aw hD2⟩
    rcases List.mem_append.mp hzz with hzz | hzz
    · exact hya z hzz
    · rw [List.mem_singleton.mp hzz]
      refine ⟨by simp, by simp; omega, fun d hd => ?_⟩
      rcases List.mem_append.mp hd with hd | hd
      · rcases List.mem_append.mp hd with hd | hd
        · exact hca d (List.mem_of_mem_take hd)
        · rw [List.mem_singleton.mp hd]; exact hcL
      · exact hca d (List.mem_of_mem_drop hd)
  have hi3 : i = 3 := by omega
  subst hi3
  obtain ⟨n0, n1, n2, rfl⟩ : ∃ n0 n1 n2, ys = [n0, n1, n2] := by
    match ys, hyl with
    | [n0, n1, n2], _ => exact ⟨_, _, _, rfl⟩
  have h0 := hya n0 (by simp)
  have h1 := hya n1 (by simp)
  have h2 := hya n2 (by simp)
  refine .inl ⟨by show 3 ≤ 3; omega, _, rfl, _, rfl, D2, _, rfl, SqL.of hys, fun p hp => ?_⟩
  have rn6 := rn5.same sm6
  have hpg := free_ne rn6 hp
  have hcut : cutV ([n0, n1, n2].map fun s => V.str (S s)) none (some ((2 : Nat) : Int)) = [V.str (S n0), V.str (S n1)] := cut_to _ 2
  have hcut : cutV ([n0, n1, n2].map fun s => V.str (S s)) none (some 2) = [V.str (S n0), V.str (S n1)] := hcut
  rw [hcut]
  have sm7 : Same H6 (upd H6 p (.lst [V.str (S n0), V.str (S n1)])) := Same.new hp
  have hp7 : (upd H6 p (.lst [V.str (S n0), V.str (S n1)])) p = some (.lst [V.str (S n0), V.str (S n1)]) := upd_same
  generalize upd H6 p (.lst [V.str (S n0), V.str (S n1)]) = H7 at sm7 hp7
  have rn7 := rn6.same sm7
  refine ⟨_, rfl, D2, _, _, .str (S n2), rfl, rfl, SqL.of (sm7 _ _ hys), at_of (j := 2) rfl rfl, _, rfl, g, 3, rfl, by decide, by decide, rn7, fun m H8 hm b8 rn8 => ⟨113, m, rfl, rfl, by omega, S n2, S (List.replicate m 113), rfl, rfl, by rw [S_len, S_len]; exact szL (by simp; omega), (show 1 ≤ sizeLine by decide), fun l2 hl2 => ?_⟩⟩
  rw [S_cat]
  have hp8 := b8 _ _ hpg.1 hp7
  have sm9 : Same H8 (upd H8 l2 (.lst [V.str (S (n2 ++ List.replicate m 113))])) := Same.new hl2
  have hl9 : (upd H8 l2 (.lst [V.str (S (n2 ++ List.replicate m 113))])) l2 = some (.lst [V.str (S (n2 ++ List.replicate m 113))]) := upd_same
  refine ⟨p, l2, _, _, rfl, rfl, sm9 _ _ hp8, hl9, szL (by show 2 + 1 ≤ 100000; decide), fun c hc => ?_⟩
  have rn9 := rn8.same sm9
  refine k _ c [n0, n1, n2 ++ List.replicate m 113] (((((b5.same sm6).same sm7).trans b8).same sm9).new hc) (rn9.same (Same.new hc)) ⟨upd_same, (show 0 < 3 by decide), (show 3 < 1000 by decide), fun s hs => ?_⟩ (free_ne rn9 hc).1
  have hs : s = n0 ∨ s = n1 ∨ s = n2 ++ List.replicate m 113 := by simpa using hs
  rcases hs with rfl | rfl | rfl
  · exact ⟨h0.1, by omega, h0.2.2⟩
  · exact ⟨h1.1, by omega, h1.2.2⟩
  · refine ⟨by simp [h2.1], by simp; omega, fun d hd => ?_⟩
    rcases List.mem_append.mp hd with hd | hd
    · exact h2.2.2 d hd
    · rw [(List.mem_replicate.mp hd).2]; decide
end Rb
set_option maxRecDepth 100000
set_option maxHeartbeats 4000000
namespace Rb
open PySem PySem.Spec PyProof.Rows L2 SX RbR
open TL (numL)
variable {P : Program} {w : World} {K : PySem.W.Frag} {mg : Str → Option Value} {base : Heap} {a : Ads}
/-! ### what is never reached -/
theorem pe_never {X : Cx} {e : Expr} : PE X e (fun _ _ _ => False) := ⟨fun _ _ _ _ _ _ h => h.elim⟩
theorem pss_never {X : Cx} {b : List Stmt} : PSs X b (fun _ _ _ => False) := ⟨fun _ _ _ _ _ _ h => h.elim⟩
/-- a caught error as it is read -/
def ErrC2 (C : Addr) (fld code : Str) (d : Option Addr) (H : Hp) : Prop := ∃ dd v, d = some dd ∧ H dd = some (.xd [(fld, v), ("code", .str code)])
def spField (a : Ads) : Addr × Obj → List V → Hp → VK → Prop := fun p vs H Q => ∃ (cls : Value) (d : Option Addr), vs = [.ref p.1] ∧ Zc cls d p.2 ∧ (∃ us, p.2.data = .fields us) ∧ ErrAt a H cls d ∧ ∀ v H', Same H H' → Q v H'
namespace D39
abbrev ST : Stmt := top 39
abbrev NS : List Str := ["_law_e"]
theorem S : FnScope NS ["_law_e"] (defScope ST) := ⟨rfl, rfl, rfl, by decide +kernel, rfl, by decide +kernel, by decide +kernel⟩
end D39
open D39 in
theorem c__law_field (T : Txt w K mg a) : ∃ (f : Addr) (fd : FuncData), FnA P w K mg base 1 f fd ["_law_e"] (spField a) ∧ mg "_law_field" = some (.ref f) ∧ PySem.W.keepIn K (.ref f) = true ∧ Binds K fd ["_law_e"] [] := by
  obtain ⟨f, fd, F, hm⟩ := T.d39.ex
  have hb : Binds K fd ["_law_e"] [] := F.binds (fun _ _ _ _ _ _ us hl => match us, hl with | [_], _ => rfl)
  have hkp := F.kp
  obtain ⟨oc, od, kV, doc, pm, an, cdv, ct, osl, rfl, lk, hcd⟩ := F.ex
  refine ⟨f, _, fn_ofA lk hcd S (fun p vs H Q h => ?_) (fun A outer s H vs Q p hr h => ?_), hm, hkp, hb⟩
  · obtain ⟨_, _, rfl, _⟩ := h; rfl
  obtain ⟨cls, d, rfl, hz, hf, he, k⟩ := h
  obtain ⟨pa, po⟩ := p
  have two : (2 : Nat) ≤ sizeLine := by decide
  have six : (6 : Nat) ≤ sizeLine := by decide
  have five : (5 : Nat) ≤ sizeLine := by decide
  have goal_lim : ∀ (C dd : Addr) (v : V) (code : Str), XfC K C → PySem.W.findIn K (.ref C) "code" = some none → PySem.W.findIn K (.ref C) "limit" = some none → cls = .ref C → d = some dd → H dd = some (.xd [("limit", v), ("code", .str code)]) →
      inV (.str code) [.str "SizeExceeded", .str "DigitsExceeded", .str "NestingTooDeep", .str "TermTooLarge", .str "LimitReached", .str "InvalidLimit"] = true →
      ∃ t, PSs (L2H.cxH L2.CX0 P w K mg base NS "_law_field" (defScope ST) f cdv A outer s H L2.E0 (pa, po)) (defBody ST) t ∧ t { nx := fun _ H' => Q .non H', rt := Q } (L2.start NS [.ref pa]) H := by
    rintro C dd v code xf nC nF rfl rfl hdd hin
    refine ⟨_, pss_cons (ps_if (pt_cmpR op_in_seq (pe_xfA xf nC hz hf List.mem_cons_self (pv 0)) (pe_lst (pa_cons pe_str (pa_cons pe_str (pa_cons pe_str (pa_cons pe_str (pa_cons pe_str (pa_cons pe_str pa_nil))))))) rfl)
      (pss_one (ps_ret (pe_xfA xf nF hz hf List.mem_cons_self (pv 0)))) pss_nil) pss_never, ?_⟩
    refine ⟨_, rfl, rfl, dd, _, _, rfl, hdd, rfl, six, fun p hp => ⟨p, _, rfl, .inl (SqL.of upd_same), rfl, rfl, _, rfl, ?_⟩⟩
    rw [hin]
    exact ifT rfl ⟨_, rfl, rfl, dd, _, _, rfl, (Same.new hp) _ _ hdd, rfl, k _ _ (Same.new hp)⟩
  obtain ⟨dd, rfl, h⟩ := he
  rcases h with ⟨rfl, v, hdd⟩ | ⟨rfl, v, hdd⟩ | ⟨rfl, v, hdd⟩
  · refine ⟨_, pss_cons (ps_if (pt_cmpR op_in_seq (pe_xfA T.e4.xf T.e4.nC hz hf List.mem_cons_self (pv 0)) (pe_lst (pa_cons pe_str (pa_cons pe_str (pa_cons pe_str (pa_cons pe_str (pa_cons pe_str (pa_cons pe_str pa_nil))))))) rfl) pss_never pss_nil)
      (pss_cons (ps_if (pt_cmpR op_in_seq (pe_xfA T.e4.xf T.e4.nC hz hf List.mem_cons_self (pv 0)) (pe_lst (pa_cons pe_str (pa_cons pe_str (pa_cons pe_str (pa_cons pe_str (pa_cons pe_str pa_nil)))))) rfl) pss_never pss_nil)
      (pss_cons (ps_if (pt_cmpR op_in_seq (pe_xfA T.e4.xf T.e4.nC hz hf List.mem_cons_self (pv 0)) (pe_lst (pa_cons pe_str (pa_cons pe_str pa_nil))) rfl)
        (pss_one (ps_ret (pe_xfA T.e4.xf T.e4.nF hz hf List.mem_cons_self (pv 0)))) pss_nil) pss_never)), ?_⟩
    refine ⟨_, rfl, rfl, dd, _, _, rfl, hdd, rfl, six, fun p hp => ⟨p, _, rfl, .inl (SqL.of upd_same), rfl, rfl, _, rfl, ifF (by decide +kernel) ?_⟩⟩
    have h1 := (Same.new (o := .lst [V.str "SizeExceeded", .str "DigitsExceeded", .str "NestingTooDeep", .str "TermTooLarge", .str "LimitReached", .str "InvalidLimit"]) hp)
    refine ⟨_, rfl, rfl, dd, _, _, rfl, h1 _ _ hdd, rfl, five, fun p2 hp2 => ⟨p2, _, rfl, .inl (SqL.of upd_same), rfl, rfl, _, rfl, ifF (by decide +kernel) ?_⟩⟩
    have h2 := h1.trans (Same.new (o := .lst [V.str "InvalidName", .str "DuplicateName", .str "NameInUse", .str "CircularName", .str "UnknownName"]) hp2)
    refine ⟨_, rfl, rfl, dd, _, _, rfl, h2 _ _ hdd, rfl, two, fun p3 hp3 => ⟨p3, _, rfl, .inl (SqL.of upd_same), rfl, rfl, _, rfl, ifT (by decide +kernel) ?_⟩⟩
    have h3 := h2.trans (Same.new (o := .lst [V.str "InvalidText", .str "InvalidCommand"]) hp3)
    exact ⟨_, rfl, rfl, dd, _, _, rfl, h3 _ _ hdd, rfl, k _ _ h3⟩
  · exact goal_lim a.c5 dd v "NestingTooDeep" T.e5.xf T.e5.nC T.e5.nF rfl rfl hdd (by decide +kernel)
  · exact goal_lim a.c6 dd v "TermTooLarge" T.e6.xf T.e6.nC T.e6.nF rfl rfl hdd (by decide +kernel)
end Rb
set_option maxRecDepth 100000
set_option maxHeartbeats 4000000
namespace Rb
open PySem PySem.Spec PyProof.Rows L2 SX RbR
open TL (numL)
variable {P : Program} {w : World} {K : PySem.W.Frag} {mg : Str → Option Value} {base : Heap} {a : Ads}
/-! ### _law_try -/
theorem takes_len {X : Cx} {W : WX} {n : Nat} (t : Takes X W) (hn : X.N.length = n) : Takes X (fun c d σ H => σ.length = n → W c d σ H) :=
  fun u s' ⟨b, B, sI, pins, σ, H, cls, d, e, I, nb, up, sky, na, os, ag, w⟩ => t u s' ⟨b, B, sI, pins, σ, H, cls, d, e, I, nb, up, sky, na, os, ag, w (I.len.trans hn)⟩
/-- what an error is turned into -/
def ErrTo (a : Ads) (Q : VK) (cls : Value) (d : Option Addr) (H : Hp) : Prop := ErrAt a H cls d ∧ ∀ H2 q code v, Same H H2 → H2 q = some (.tup [.str code, v]) → code ≠ ("value" : Str) → Q (.ref q) H2
def TTry (a : Ads) : (XK → Hp → VK → Prop) → Hp → VK → Prop := fun tl H Q =>
  tl (fun cls d H' => ErrTo a Q cls d H') H (fun v H' => 2 ≤ sizeLine ∧ ∀ q, H' q = none → Q (.ref q) (upd H' q (.tup [.str "value", v])))
namespace D40
abbrev ST : Stmt := top 40
abbrev NS : List Str := ["_law_ask", "_law_e"]
theorem S : FnScope NS ["_law_ask"] (defScope ST) := ⟨rfl, rfl, rfl, by decide +kernel, rfl, by decide +kernel, by decide +kernel⟩
end D40
open D40 in
theorem gives_try {X : Cx} {k : Nat} {q : Str} {g : Addr} {cdg : Value} (T : Txt X.w X.K X.mg a) (hr : Room (k + 2) X.A) : LamX.GivesTo X NS "_law_try" (defScope ST) g cdg (defBody ST) "_law_ask" q (TTry a) := by
  obtain ⟨ff, ffd, FF, hmF, hkF, hbF⟩ := c__law_field (P := X.prog) (base := X.base) T
  intro f c' s H Q tl act hc h
  have hrH : ∀ env, L2H.RoomH (k + 1) (X.A.deeper env) := fun env => L2H.roomH_of (hr.deeper env)
  have ex1 : ∀ {H' : Hp} {cls : Value} {d : Option Addr}, ErrAt a H' cls d → PySem.W.exmOne X.K cls (.ref a.c1) = some true := fun {H' cls d} ⟨dd, _, h⟩ => by
    rcases h with ⟨rfl, _⟩ | ⟨rfl, _⟩ | ⟨rfl, _⟩
    · exact T.e4.ex
    · exact T.e5.ex
    · exact T.e6.ex
  refine ⟨_, pss_one (ps_try_first (X := (cxOf C8.CX0 X.prog X.w X.K X.mg X.base NS "_law_try" (defScope ST) g cdg X.A X.stack s H C8.E0).nox) (x := "BagError") (n := "_law_e") (c := .ref a.c1) (i := 1)
      (tb := fun W D σ H => ∃ Ech : XK, (∀ cls d σ' H', Ech cls d H' → σ'.length = 2 → W cls d σ' H') ∧ tRet (tTup (tCons (tC (.str "value")) (tCons (fun σZ HZ Q => σZ[0]? = some (some (.ref f)) ∧ HZ c' = some (LamX.CodeO c' q) ∧ tl Ech HZ Q) tNil))) D σ H)
      (ts := fun xa cls d D σ H => ErrTo a D.rt cls d H ∧ σ[1]? = some (some (.ref xa)))
      rfl rfl S.nd rfl rfl ⟨rfl, rfl, .inl T.m1⟩ (fun W pn xe tk => ?_) (fun xa oe cls d pn hz hf => ?_)), ?_⟩
  · refine ⟨fun pins s' σ H' D I h' => ?_⟩
    obtain ⟨Ech, hW, h3⟩ := h'
    exact (pss_one (ps_ret (pe_tup (pa_cons pe_str (pa_cons (act (fun c d σ H => σ.length = 2 → W c d σ H) pn xe Ech _ _ (takes_len tk rfl) hW) pa_nil))))).run pins s' σ H' D I h3
  · refine ⟨fun pins s' σ H' D I h' => ?_⟩
    obtain ⟨⟨he, kx⟩, hσ⟩ := h'
    have he' := he
    have hrS : L2H.RoomH 1 ((cxOf C8.CX0 X.prog X.w X.K X.mg X.base NS "_law_try" (defScope ST) g cdg X.A X.stack s H C8.E0).nox.suite xa ((xa, oe) :: pn)).A := by
      have h0 := (hrH (envOfC "_law_try" (defScope ST) s.heap.objs.size g cdg))
      exact ⟨Nat.lt_of_le_of_lt (by show X.A.depth + 1 + 3 * 1 + 5 ≤ X.A.depth + 1 + 3 * (k + 1) + 5; omega) h0.dp, Nat.lt_of_le_of_lt (by show X.A.units + 3 + 16 * 1 + 200 ≤ X.A.units + 3 + 16 * (k + 1) + 200; omega) h0.un⟩
    obtain ⟨dd, rfl, h2⟩ := he
    rcases h2 with ⟨rfl, v, hdd⟩ | ⟨rfl, v, hdd⟩ | ⟨rfl, v, hdd⟩
    · exact (pss_one (ps_ret (pe_tup (pa_cons (pe_xfA (X := (cxOf C8.CX0 X.prog X.w X.K X.mg X.base NS "_law_try" (defScope ST) g cdg X.A X.stack s H C8.E0).nox.suite xa ((xa, oe) :: pn)) T.e4.xf T.e4.nC hz hf List.mem_cons_self (pv 1)) (pa_cons (pe_callA (X := (cxOf C8.CX0 X.prog X.w X.K X.mg X.base NS "_law_try" (defScope ST) g cdg X.A X.stack s H C8.E0).nox.suite xa ((xa, oe) :: pn)) (x := "_law_field") (p := (xa, oe)) FF hrS List.mem_cons_self rfl hmF hkF hbF (pa_cons (pv 1) pa_nil)) pa_nil))))).run pins s' σ H' D I
        ⟨_, hσ, rfl, dd, _, _, rfl, hdd, rfl, _, hσ, _, _, rfl, hz, hf, he', fun v2 H2 sm => ⟨by show 2 ≤ sizeLine; decide, fun q2 hq2 => kx _ q2 "InvalidText" v2 (sm.trans (Same.new hq2)) upd_same (by decide +kernel)⟩⟩
    · exact (pss_one (ps_ret (pe_tup (pa_cons (pe_xfA (X := (cxOf C8.CX0 X.prog X.w X.K X.mg X.base NS "_law_try" (defScope ST) g cdg X.A X.stack s H C8.E0).nox.suite xa ((xa, oe) :: pn)) T.e5.xf T.e5.nC hz hf List.mem_cons_self (pv 1)) (pa_cons (pe_callA (X := (cxOf C8.CX0 X.prog X.w X.K X.mg X.base NS "_law_try" (defScope ST) g cdg X.A X.stack s H C8.E0).nox.suite xa ((xa, oe) :: pn)) (x := "_law_field") (p := (xa, oe)) FF hrS List.mem_cons_self rfl hmF hkF hbF (pa_cons (pv 1) pa_nil)) pa_nil))))).run pins s' σ H' D I
        ⟨_, hσ, rfl, dd, _, _, rfl, hdd, rfl, _, hσ, _, _, rfl, hz, hf, he', fun v2 H2 sm => ⟨by show 2 ≤ sizeLine; decide, fun q2 hq2 => kx _ q2 "NestingTooDeep" v2 (sm.trans (Same.new hq2)) upd_same (by decide +kernel)⟩⟩
    · exact (pss_one (ps_ret (pe_tup (pa_cons (pe_xfA (X := (cxOf C8.CX0 X.prog X.w X.K X.mg X.base NS "_law_try" (defScope ST) g cdg X.A X.stack s H C8.E0).nox.suite xa ((xa, oe) :: pn)) T.e6.xf T.e6.nC hz hf List.mem_cons_self (pv 1)) (pa_cons (pe_callA (X := (cxOf C8.CX0 X.prog X.w X.K X.mg X.base NS "_law_try" (defScope ST) g cdg X.A X.stack s H C8.E0).nox.suite xa ((xa, oe) :: pn)) (x := "_law_field") (p := (xa, oe)) FF hrS List.mem_cons_self rfl hmF hkF hbF (pa_cons (pv 1) pa_nil)) pa_nil))))).run pins s' σ H' D I
        ⟨_, hσ, rfl, dd, _, _, rfl, hdd, rfl, _, hσ, _, _, rfl, hz, hf, he', fun v2 H2 sm => ⟨by show 2 ≤ sizeLine; decide, fun q2 hq2 => kx _ q2 "TermTooLarge" v2 (sm.trans (Same.new hq2)) upd_same (by decide +kernel)⟩⟩
  · refine ⟨fun cls d H' => ErrTo a Q cls d H', fun cls d σ' H' he hl => ⟨ex1 he.1, fun xa _ => ⟨he, ?_⟩⟩, rfl, hc, h⟩
    match σ', hl with
    | [s0, s1], _ => rfl
end Rb
set_option maxRecDepth 100000
set_option maxHeartbeats 4000000
namespace Rb
open PySem PySem.Spec PyProof.Rows L2 SX RbR
open TL (numL)
/-! ### a tree as data; == -/
def numsD (qs : List Rt) : PyData := .tuple (qs.map fun q => .tuple [.int q.1, .int q.2])
def data : Tm → PyData
  | .name s => .tuple [.str (word (.name s)), .str (S s)]
  | .list qs => .tuple [.str (word (.list qs)), numsD qs]
  | .roots qs => .tuple [.str (word (.roots qs)), numsD qs]
  | .unity n => .tuple [.str (word (.unity n)), .int (n : Nat)]
  | .bin o x y => .tuple [.str (word (.bin o x y)), data x, data y]
  | .neg x => .tuple [.str (word (.neg x)), data x]
  | .pow x n => .tuple [.str (word (.pow x n)), data x, .int (n : Nat)]
  | .map p x => .tuple [.str (word (.map p x)), numsD p, data x]
  | .sums x n => .tuple [.str (word (.sums x n)), data x, .int (n : Nat)]
  | .prods x n => .tuple [.str (word (.prods x n)), data x, .int (n : Nat)]
  | .dist x => .tuple [.str (word (.dist x)), data x]
  | .comm x y => .tuple [.str (word (.comm x y)), data x, data y]
  | .wout x y => .tuple [.str (word (.wout x y)), data x, data y]
theorem dp_nums {K : PySem.W.Frag} {H : Hp} {v : V} {qs : List Rt} (h : NumsT H v qs) : Dp K H v (numsD qs) := by
  obtain ⟨b, vs, rfl, hb, hr⟩ := h
  refine .tup (SqT.of hb) ?_
  clear hb
  have : ∀ {vs : List V} {qs : List Rt}, RtsAt H vs qs → DpAll K H vs (qs.map fun q => .tuple [.int q.1, .int q.2]) := by
    intro vs qs h
    induction h with
    | nil => exact .nil
    | cons h r ih => exact .cons (dp_rt h) ih
  exact this hr
theorem dp_tree {K : PySem.W.Frag} {H : Hp} : ∀ {T : Tm} {v : V}, TreeAt H v T → Dp K H v (data T)
  | .name _, _, ⟨a, e, h⟩ => by subst e; exact .tup (SqT.of h) (.cons (.str _) (.cons (.str _) .nil))
  | .list _, _, ⟨a, b, e, h, n⟩ => by subst e; exact .tup (SqT.of h) (.cons (.str _) (.cons (dp_nums n) .nil))
  | .roots _, _, ⟨a, b, e, h, n⟩ => by subst e; exact .tup (SqT.of h) (.cons (.str _) (.cons (dp_nums n) .nil))
  | .unity _, _, ⟨a, e, h⟩ => by subst e; exact .tup (SqT.of h) (.cons (.str _) (.cons (.int _) .nil))
  | .bin o _ _, _, ⟨a, b, c, e, h, x, y⟩ => by subst e; exact .tup (SqT.of h) (.cons (.str _) (.cons (dp_tree x) (.cons (dp_tree y) .nil)))
  | .neg _, _, ⟨a, b, e, h, x⟩ => by subst e; exact .tup (SqT.of h) (.cons (.str _) (.cons (dp_tree x) .nil))
  | .pow _ _, _, ⟨a, b, e, h, x⟩ => by subst e; exact .tup (SqT.of h) (.cons (.str _) (.cons (dp_tree x) (.cons (.int _) .nil)))
  | .map _ _, _, ⟨a, b, c, e, h, n, x⟩ => by subst e; exact .tup (SqT.of h) (.cons (.str _) (.cons (dp_nums n) (.cons (dp_tree x) .nil)))
  | .sums _ _, _, ⟨a, b, e, h, x⟩ => by subst e; exact .tup (SqT.of h) (.cons (.str _) (.cons (dp_tree x) (.cons (.int _) .nil)))
  | .prods _ _, _, ⟨a, b, e, h, x⟩ => by subst e; exact .tup (SqT.of h) (.cons (.str _) (.cons (dp_tree x) (.cons (.int _) .nil)))
  | .dist _, _, ⟨a, b, e, h, x⟩ => by subst e; exact .tup (SqT.of h) (.cons (.str _) (.cons (dp_tree x) .nil))
  | .comm _ _, _, ⟨a, b, c, e, h, x, y⟩ => by subst e; exact .tup (SqT.of h) (.cons (.str _) (.cons (dp_tree x) (.cons (dp_tree y) .nil)))
  | .wout _ _, _, ⟨a, b, c, e, h, x, y⟩ => by subst e; exact .tup (SqT.of h) (.cons (.str _) (.cons (dp_tree x) (.cons (dp_tree y) .nil)))
/-! only texts, numbers and tuples -/
mutual
def tin : PyData → Bool
  | .int _ => true
  | .str _ => true
  | .tuple xs => tinAll xs
  | _ => false
def tinAll : List PyData → Bool
  | [] => true
  | x :: xs => tin x && tinAll xs
end
mutual
theorem eqv_eq : ∀ d e : PyData, tin d = true → tin e = true → PyData.eqv d e = true → d = e
  | .int i, .int j, _, _, h => by simp [PyData.eqv] at h; rw [h]
  | .str x, .str y, _, _, h => by simp [PyData.eqv] at h; rw [h]
  | .tuple xs, .tuple ys, h1, h2, h => by
    simp only [tin] at h1 h2
    simp only [PyData.eqv] at h
    rw [eqvAll_eq xs ys h1 h2 h]
  | .int _, .str _, _, _, h => by simp [PyData.eqv] at h
  | .int _, .tuple _, _, _, h => by simp [PyData.eqv] at h
  | .str _, .int _, _, _, h => by simp [PyData.eqv] at h
  | .str _, .tuple _, _, _, h => by simp [PyData.eqv] at h
  | .tuple _, .int _, _, _, h => by simp [PyData.eqv] at h
  | .tuple _, .str _, _, _, h => by simp [PyData.eqv] at h
  | .none, _, h, _, _ => by simp [tin] at h
  | .bool _, _, h, _, _ => by simp [tin] at h
  | .list _, _, h, _, _ => by simp [tin] at h
  | .dict _, _, h, _, _ => by simp [tin] at h
  | _, .none, _, h, _ => by simp [tin] at h
  | _, .bool _, _, h, _ => by simp [tin] at h
  | _, .list _, _, h, _ => by simp [tin] at h
  | _, .dict _, _, h, _ => by simp [tin] at h
theorem eqvAll_eq : ∀ xs ys : List PyData, tinAll xs = true → tinAll ys = true → PyData.eqvAll xs ys = true → xs = ys
  | [], [], _, _, _ => rfl
  | x :: xs, y :: ys, h1, h2, h => by
    simp only [tinAll, Bool.and_eq_true] at h1 h2
    simp only [PyData.eqvAll, Bool.and_eq_true] at h
    rw [eqv_eq x y h1.1 h2.1 h.1, eqvAll_eq xs ys h1.2 h2.2 h.2]
  | [], _ :: _, _, _, h => by simp [PyData.eqvAll] at h
  | _ :: _, [], _, _, h => by simp [PyData.eqvAll] at h
end
theorem tin_nums (qs : List Rt) : tin (numsD qs) = true := by
  unfold numsD
  simp only [tin]
  induction qs with
  | nil => rfl
  | cons q r ih => rw [List.map_cons]; simp only [tinAll, ih]; rfl
theorem tin_data (T : Tm) : tin (data T) = true := by
  induction T <;> simp [data, tin, tinAll, tin_nums, *]
def on : Bop → Nat
  | .join => 0 | .sum => 1 | .diff => 2 | .prod => 3 | .quot => 4
def cn : Tm → Nat
  | .name _ => 5 | .list _ => 6 | .roots _ => 7 | .unity _ => 8 | .bin o _ _ => on o | .neg _ => 9 | .pow _ _ => 10 | .map _ _ => 11 | .sums _ _ => 12 | .prods _ _ => 13 | .dist _ => 14 | .comm _ _ => 15 | .wout _ _ => 16
def wc (w : Str) : Nat := (["join", "sum", "difference", "product", "quotient", "name", "list", "roots", "unity", "negative", "power", "map", "sums", "products", "distinct", "common", "without"] : List Str).findIdx fun x => decide (x = w)
theorem wc_word (T : Tm) : wc (word T) = cn T := by
  cases T with
  | bin o _ _ => cases o <;> rfl
  | _ => rfl
theorem on_le (o : Bop) : on o ≤ 4 := by cases o <;> decide
theorem on_inj : ∀ {o p : Bop}, on o = on p → o = p := by
  intro o p h
  cases o <;> cases p <;> first | rfl | cases h
theorem map_rt_inj : ∀ {p q : List Rt}, (p.map fun q => PyData.tuple [.int q.1, .int q.2]) = (q.map fun q => PyData.tuple [.int q.1, .int q.2]) → p = q
  | [], [], _ => rfl
  | [], _ :: _, h => by simp at h
  | _ :: _, [], h => by simp at h
  | x :: p, y :: q, h => by
    rw [List.map_cons, List.map_cons] at h
    obtain ⟨h1, h2⟩ := List.cons.inj h
    have h3 := PyData.tuple.inj h1
    simp only [List.cons.injEq, PyData.int.injEq, and_true] at h3
    rw [map_rt_inj h2, Prod.ext h3.1 h3.2]
theorem nums_inj {p q : List Rt} (h : numsD p = numsD q) : p = q := map_rt_inj (PyData.tuple.inj h)
theorem head_cn {a b : Tm} {xs ys : List PyData} (h : PyData.tuple (.str (word a) :: xs) = PyData.tuple (.str (word b) :: ys)) : cn a = cn b ∧ xs = ys := by
  have h := PyData.tuple.inj h
  have h1 := PyData.str.inj (List.cons.inj h).1
  exact ⟨by rw [← wc_word, ← wc_word, h1], (List.cons.inj h).2⟩
theorem data_inj : ∀ {a b : Tm}, data a = data b → a = b := by
  intro a
  induction a <;> intro b h <;> cases b <;>
    (have hh := head_cn (show PyData.tuple (_ :: _) = PyData.tuple (_ :: _) from h); obtain ⟨hc, hr⟩ := hh; simp only [cn] at hc) <;> try (exfalso; first | omega | (have := on_le ‹Bop›; omega))
  · simp only [List.cons.injEq, PyData.str.injEq, and_true] at hr
    rw [S_inj hr]
  · simp only [List.cons.injEq, and_true] at hr
    rw [nums_inj hr]
  · simp only [List.cons.injEq, and_true] at hr
    rw [nums_inj hr]
  · simp only [List.cons.injEq, PyData.int.injEq, and_true] at hr
    rw [Int.ofNat.inj hr]
  · rename_i ih1 ih2 _ _ _
    simp only [List.cons.injEq, and_true] at hr
    rw [on_inj hc, ih1 hr.1, ih2 hr.2]
  · rename_i ih1 _
    simp only [List.cons.injEq, and_true] at hr
    rw [ih1 hr]
  · rename_i ih1 _ _
    simp only [List.cons.injEq, PyData.int.injEq, and_true] at hr
    rw [ih1 hr.1, Int.ofNat.inj hr.2]
  · rename_i ih1 _ _
    simp only [List.cons.injEq, and_true] at hr
    rw [nums_inj hr.1, ih1 hr.2]
  · rename_i ih1 _ _
    simp only [List.cons.injEq, PyData.int.injEq, and_true] at hr
    rw [ih1 hr.1, Int.ofNat.inj hr.2]
  · rename_i ih1 _ _
    simp only [List.cons.injEq, PyData.int.injEq, and_true] at hr
    rw [ih1 hr.1, Int.ofNat.inj hr.2]
  · rename_i ih1 _
    simp only [List.cons.injEq, and_true] at hr
    rw [ih1 hr]
  · rename_i ih1 ih2 _ _
    simp only [List.cons.injEq, and_true] at hr
    rw [ih1 hr.1, ih2 hr.2]
  · rename_i ih1 ih2 _ _
    simp only [List.cons.injEq, and_true] at hr
    rw [ih1 hr.1, ih2 hr.2]
theorem word_ok (T : Tm) : PyData.strOk (word T) = true := by
  cases T with
  | bin o _ _ => exact (show PyData.strOk (bw o) = true by cases o <;> decide +kernel)
  | name _ => exact (show PyData.strOk "name" = true by decide +kernel)
  | list _ => exact (show PyData.strOk "list" = true by decide +kernel)
  | roots _ => exact (show PyData.strOk "roots" = true by decide +kernel)
  | unity _ => exact (show PyData.strOk "unity" = true by decide +kernel)
  | neg _ => exact (show PyData.strOk "negative" = true by decide +kernel)
  | pow _ _ => exact (show PyData.strOk "power" = true by decide +kernel)
  | map _ _ => exact (show PyData.strOk "map" = true by decide +kernel)
  | sums _ _ => exact (show PyData.strOk "sums" = true by decide +kernel)
  | prods _ _ => exact (show PyData.strOk "products" = true by decide +kernel)
  | dist _ => exact (show PyData.strOk "distinct" = true by decide +kernel)
  | comm _ _ => exact (show PyData.strOk "common" = true by decide +kernel)
  | wout _ _ => exact (show PyData.strOk "without" = true by decide +kernel)
theorem lay_nums (qs : List Rt) : (numsD qs).canLay0 = true := by
  unfold numsD
  simp only [PyData.canLay0]
  induction qs with
  | nil => rfl
  | cons q r ih => rw [List.map_cons]; simp only [PyData.canLayAll0, ih]; rfl
theorem lay_name {s : Tx} (h : NmOk s) : PyData.strOk (S s) = true := by
  unfold PyData.strOk
  rw [← Array.all_toList, tlS]
  refine List.all_eq_true.mpr fun c hc => ?_
  have := h.2.2 c hc
  unfold isL at this
  simp only [Bool.and_eq_true, decide_eq_true_eq] at this
  exact decide_eq_true (by omega)
theorem lay_data : ∀ {T : Tm}, Ok T → (data T).canLay0 = true
  | .name s, h => by simp only [data, PyData.canLay0, PyData.canLayAll0, word_ok, lay_nums, lay_name h]; rfl
  | .list _, h => by simp only [data, PyData.canLay0, PyData.canLayAll0, word_ok, lay_nums]; rfl
  | .roots _, h => by simp only [data, PyData.canLay0, PyData.canLayAll0, word_ok, lay_nums]; rfl
  | .unity _, h => by simp only [data, PyData.canLay0, PyData.canLayAll0, word_ok, lay_nums]; rfl
  | .bin o x y, h => by simp only [data, PyData.canLay0, PyData.canLayAll0, word_ok, lay_nums, lay_data h.1, lay_data h.2]; rfl
  | .neg x, h => by simp only [data, PyData.canLay0, PyData.canLayAll0, word_ok, lay_nums, lay_data (T := x) h]; rfl
  | .pow x _, h => by simp only [data, PyData.canLay0, PyData.canLayAll0, word_ok, lay_nums, lay_data h.1]; rfl
  | .map _ x, h => by simp only [data, PyData.canLay0, PyData.canLayAll0, word_ok, lay_nums, lay_data h.2]; rfl
  | .sums x _, h => by simp only [data, PyData.canLay0, PyData.canLayAll0, word_ok, lay_nums, lay_data h.1]; rfl
  | .prods x _, h => by simp only [data, PyData.canLay0, PyData.canLayAll0, word_ok, lay_nums, lay_data h.1]; rfl
  | .dist x, h => by simp only [data, PyData.canLay0, PyData.canLayAll0, word_ok, lay_nums, lay_data (T := x) h]; rfl
  | .comm x y, h => by simp only [data, PyData.canLay0, PyData.canLayAll0, word_ok, lay_nums, lay_data h.1, lay_data h.2]; rfl
  | .wout x y, h => by simp only [data, PyData.canLay0, PyData.canLayAll0, word_ok, lay_nums, lay_data h.1, lay_data h.2]; rfl
theorem dep_nums (qs : List Rt) : (numsD qs).depth ≤ 2 := by
  unfold numsD
  simp only [PyData.depth]
  have : ∀ qs : List Rt, PyData.depthAll (qs.map fun q => .tuple [.int q.1, .int q.2]) ≤ 1 := by
    intro qs
    induction qs with
    | nil => exact Nat.zero_le _
    | cons q r ih =>
      rw [List.map_cons]
      simp only [PyData.depthAll, PyData.depth]
      exact Nat.max_le.mpr ⟨by decide, ih⟩
  have := this qs
  omega
theorem dep_data (T : Tm) : (data T).depth ≤ nodes T + 2 := by
  induction T with
  | name _ => simp [data, PyData.depth, PyData.depthAll, nodes]
  | list qs => have := dep_nums qs; simp [data, PyData.depth, PyData.depthAll, nodes]; omega
  | roots qs => have := dep_nums qs; simp [data, PyData.depth, PyData.depthAll, nodes]; omega
  | unity _ => simp [data, PyData.depth, PyData.depthAll, nodes]
  | bin o x y h1 h2 => simp [data, PyData.depth, PyData.depthAll, nodes]; omega
  | neg x h => simp [data, PyData.depth, PyData.depthAll, nodes]; omega
  | pow x n h => simp [data, PyData.depth, PyData.depthAll, nodes]; omega
  | map p x h => have := dep_nums p; simp [data, PyData.depth, PyData.depthAll, nodes]; omega
  | sums x n h => simp [data, PyData.depth, PyData.depthAll, nodes]; omega
  | prods x n h => simp [data, PyData.depth, PyData.depthAll, nodes]; omega
  | dist x h => simp [data, PyData.depth, PyData.depthAll, nodes]; omega
  | comm x y h1 h2 => simp [data, PyData.depth, PyData.depthAll, nodes]; omega
  | wout x y h1 h2 => simp [data, PyData.depth, PyData.depthAll, nodes]; omega
theorem shaped_data {T : Tm} (h : Ok T) (hn : nodes T ≤ 60) : SeqAt.shaped (data T) = true := by
  unfold SeqAt.shaped
  rw [lay_data h, decide_eq_true (by have := dep_data T; omega)]
  rfl
theorem eqv_data {a b : Tm} (ha : Ok a) : PyData.eqv (data a) (data b) = decide (a = b) := by
  by_cases h : a = b
  · subst h
    rw [SeqAt.eqv_refl _ (lay_data ha), decide_eq_true rfl]
  · rw [decide_eq_false h]
    cases q : PyData.eqv (data a) (data b) with
    | false => rfl
    | true => exact (h (data_inj (eqv_eq _ _ (tin_data a) (tin_data b) q))).elim
end Rb
set_option maxRecDepth 100000
set_option maxHeartbeats 4000000
namespace Rb
open PySem PySem.Spec PyProof.Rows L2 SX RbR
open TL (numL)
variable {P : Program} {w : World} {K : PySem.W.Frag} {mg : Str → Option Value} {base : Heap} {a : Ads}
theorem passL {X : Cx} : Passes (L2.CX X.prog X.w) X (fun _ _ _ => False) := fun _ _ _ _ _ _ _ h => by
  obtain ⟨_, _, _, _, _, _, _, _, _, _, _, _, h⟩ := h
  exact h.elim
theorem extn_kt {H H' : Hp} (e : LamX.ExtN H H') : KT H H' := fun b xs h => e b _ h (fun ps q => by cases q)
theorem extn_rng {H H' : Hp} {g : Addr × Addr} (e : LamX.ExtN H H') (r : Rng H g) : Rng H' g := by
  obtain ⟨ns, p, b, s, h1, h2⟩ := r
  exact ⟨ns, p, b, s, e _ _ h1 (fun ps q => by cases q), e _ _ h2 (fun ps q => by cases q)⟩
theorem tabs_but {LT : List (Addr × Str)} {H H' : Hp} {g : Addr × Addr} (t : LamX.Tabs LT H) (b : But g.1 H H') (r : Rng H g) : LamX.Tabs LT H' := fun p hp => by
  obtain ⟨ps, h1, h2, h3⟩ := t p hp
  obtain ⟨xs, hg⟩ := r.lst
  refine ⟨ps, b _ _ (fun q => by rw [q, hg] at h1; cases h1) h1, h2, fun pos cv hc => ?_⟩
  obtain ⟨c, e1, e2⟩ := h3 pos cv hc
  exact ⟨c, e1, b _ _ (fun q => by rw [q, hg] at e2; cases e2) e2⟩
theorem parse_P {t : Tx} {T T' : Tm} {r : List Tx} (h : parseT t = some T) (h2 : Rb.P 20 (scan t ++ [[]]) = some (T', r)) : T' = T := by
  obtain ⟨_, _, _, _, hl⟩ := parse_sound h
  rw [parse_eq hl, h2] at h
  cases r with
  | nil => cases h
  | cons t' r' =>
    have h : (if t' = [] then (if nodes T' > 60 then none else some T') else none) = some T := h
    split at h
    · split at h
      · cases h
      · exact Option.some.inj h
    · cases h
def spLaw (K : PySem.W.Frag) (PT : Addr) : Sp := fun vs H Q _ => ∃ (c : Addr) (ns : List Int), vs = [.ref c] ∧ SqL K H c (ns.map V.int) ∧ H PT = some (.tbl #[]) ∧ ∀ H', Q (.bl true) H'
namespace D56
abbrev ST : Stmt := top 56
abbrev NS : List Str := ["_law_script", "_law_rng", "_law_turn", "_law_names", "_law_one", "_law_other", "_law_signs", "_law_text_here", "_law_told", "_law_sign", "_law_both", "_law_tree_here", "_law_again"]
theorem S : FnScope NS ["_law_script"] (defScope ST) := ⟨rfl, rfl, rfl, by decide +kernel, rfl, by decide +kernel, by decide +kernel⟩
end D56
open D56 in
theorem law_ok (T : Txt w K mg a) {fa cl PT : Addr} {oc : Value} {od an : Option Addr} {osl : Array (Option Value)} {kV doc pm ct : Value}
    (lk : K.lookup fa = some ⟨oc, od, .func (PySem.W.fnOf "law" "law" (defArgs ST) (defBody ST) (defScope ST) .none kV doc pm an (.ref cl) ct), osl⟩) (hcd : PySem.W.codeIn K (.ref cl) "law" = true) (TB : LamX.TabB base mg cl PT) :
    FnOk P w K mg base L2.CX0 230 fa (PySem.W.fnOf "law" "law" (defArgs ST) (defBody ST) (defScope ST) .none kV doc pm an (.ref cl) ct) ["_law_script"] (spLaw K PT) := by
  have c__law_draws := c__law_draws (P := P) (base := base) T
  have c__law_term_names := c__law_term_names (P := P) (base := base) T
  have c__law_draw := c__law_draw (P := P) (base := base) T
  have c__law_pick := c__law_pick (P := P) (base := base) T
  have c__law_wanted_tree := c__law_wanted_tree (P := P) (base := base) T
  have c__law_bent_text := c__law_bent_text (P := P) (base := base) T
  have c__law_text := c__law_text (P := P) (base := base) T 31
  have c_format_term := c_format (P := P) (base := base) T 60
  have c_parse_term := c_parse_term (P := P) (base := base) T
  obtain ⟨ft, fdt, FT, hmt⟩ := T.d40.ex
  have hkt := FT.kp
  have hbt : L2.Binds K fdt ["_law_ask"] [] := FT.binds (fun _ _ _ _ _ _ us hl => match us, hl with | [_], _ => rfl)
  obtain ⟨oct, odt, kVt, doct, pmt, ant, cdvt, ctt, oslt, rfl, lkt, hct⟩ := FT.ex
  refine fn_of (k := 229) lk hcd S (fun vs H Q E h => ?_) (fun A outer s H vs Q E hr h => ?_)
  · obtain ⟨_, _, rfl, _⟩ := h; rfl
  obtain ⟨c, ns, rfl, hc, hPT, k⟩ := h
  obtain ⟨LT, hLTe⟩ : ∃ LT : List (Addr × Str), LT = [(PT, (cxOf L2.CX0 P w K mg base NS "law" (defScope ST) fa (.ref cl) A outer s H E).nox.env.qual ++ "<lambda>")] := ⟨_, rfl⟩
  have hLT : (PT, (cxOf L2.CX0 P w K mg base NS "law" (defScope ST) fa (.ref cl) A outer s H E).nox.env.qual ++ "<lambda>") ∈ LT := by rw [hLTe]; exact List.mem_cons_self
  have hLu : ∀ p ∈ LT, p.1 = PT → p.2 = (cxOf L2.CX0 P w K mg base NS "law" (defScope ST) fa (.ref cl) A outer s H E).nox.env.qual ++ "<lambda>" := by
    rw [hLTe]
    intro p hp _
    rw [List.mem_singleton.mp hp]
  suffices h2 : ∃ t, PSs (cxOf L2.CX0 P w K mg base NS "law" (defScope ST) fa (.ref cl) A outer s H E).nox (defBody ST) t ∧ t { nx := fun _ H' => Q .non H', rt := Q } (L2.start NS [.ref c]) H by
    obtain ⟨t, h1, h3⟩ := h2
    exact ⟨t, h1.nox, h3⟩
  have tabs0 : LamX.Tabs LT H := by
    rw [hLTe]
    intro p hp
    rw [List.mem_singleton.mp hp]
    exact LamX.TabS.nil hPT
  refine ⟨_, (pss_cons (ps_set (i := 1) S.nd rfl (Or.inl rfl) (pe_k c__law_draws hr (by omega) rfl L2.pass0 (pa_cons (pv 0) pa_nil)))
  (pss_cons (ps_for PassesOwn.never rfl (pi_range1 rfl T.bRng (pa_cons pe_int pa_nil)) (pg_name (i := 2) S.nd rfl (Or.inl rfl))
    (pss_cons (ps_set (i := 3) S.nd rfl (Or.inl rfl) (pe_k c__law_term_names hr (by omega) rfl L2.pass0 (pa_cons (pv 1) pa_nil)))
    (pss_cons (ps_set (i := 4) S.nd rfl (Or.inl rfl) (pe_k c_parse_term hr (by omega) rfl passL (pa_cons (pe_k c__law_text hr (by omega) rfl L2.pass0 (pa_cons (pe_k c__law_wanted_tree hr (by omega) rfl L2.pass0 (pa_cons (pv 1) (pa_cons (pe_op op_add pe_int (pe_k c__law_draw hr (by omega) rfl L2.pass0 (pa_cons (pv 1) (pa_cons pe_int pa_nil)))) (pa_cons (pv 3) pa_nil)))) pa_nil)) pa_nil)))
    (pss_cons (ps_set (i := 5) S.nd rfl (Or.inl rfl) (pe_k c_parse_term hr (by omega) rfl passL (pa_cons (pe_k c__law_text hr (by omega) rfl L2.pass0 (pa_cons (pe_k c__law_wanted_tree hr (by omega) rfl L2.pass0 (pa_cons (pv 1) (pa_cons (pe_op op_add pe_int (pe_k c__law_draw hr (by omega) rfl L2.pass0 (pa_cons (pv 1) (pa_cons pe_int pa_nil)))) (pa_cons (pv 3) pa_nil)))) pa_nil)) pa_nil)))
    (pss_cons (ps_if (PW.pt (pw_or (pt_cmpR (op_neD hr.units) (pe_k c_parse_term hr (by omega) rfl passL (pa_cons (pe_k c_format_term hr (by omega) rfl L2.pass0 (pa_cons (pv 4) pa_nil)) pa_nil)) (pv 4) (nomark _)) (pw_or1 (pt_cmpR op_ne (pe_cmpR op_eq (pe_k c_format_term hr (by omega) rfl L2.pass0 (pa_cons (pv 4) pa_nil)) (pe_k c_format_term hr (by omega) rfl L2.pass0 (pa_cons (pv 5) pa_nil)) (nomark _)) (pe_cmpR (op_eqD hr.units) (pv 4) (pv 5) (nomark _)) (nomark _)))))
      (pss_one (ps_ret pe_bl))
      pss_nil)
    (pss_cons (ps_set (i := 6) S.nd rfl (Or.inl rfl) (pe_lst (pa_cons pe_str (pa_cons pe_str (pa_cons pe_str (pa_cons pe_str (pa_cons pe_str (pa_cons pe_str (pa_cons pe_str (pa_cons pe_str (pa_cons pe_str (pa_cons pe_str pa_nil))))))))))))
    (pss_cons (ps_set (i := 7) S.nd rfl (Or.inr rfl) (pe_k c__law_bent_text hr (by omega) rfl L2.pass0 (pa_cons (pv 1) (pa_cons (pe_k c_format_term hr (by omega) rfl L2.pass0 (pa_cons (pv 4) pa_nil)) (pa_cons (pv 6) pa_nil)))))
    (C8.pss_cut (ps_set (i := 8) S.nd rfl (Or.inl rfl) (LamX.pe_lamcall (T := LT) (TT := TTry a) (x := "_law_try") (a := "_law_ask") (k := 176) rfl hmt hkt lkt hct hbt D40.S rfl (by first | exact .inl rfl | exact .inr (.inl rfl)) (gives_try (k := 176) T (hr.mono (by decide))) TB rfl hLT hLu (hr.mono (by decide)) (LamX.lamS_by (show LamX.lamSB (defScope ST) _ = true by decide +kernel)) rfl (fun _ _ _ _ _ => rfl) (fun A2 outer2 s2 H2 E2 f2 c2 hr2 => pe_k c_parse_term hr2 (Nat.le_refl _) rfl (passes_call (takes_of rfl rfl rfl rfl) (fun _ _ _ _ h => h)) (pa_cons (pv 7) pa_nil))))
    (C8.pss_cut (ps_if (pt_cmpR op_eq (pe_ix ix_tup (pv 8) pe_int (fun _ _ => rfl)) pe_str (nomark _))
      (pss_cons (ps_set (i := 12) S.nd rfl (Or.inl rfl) (pe_k c_format_term hr (by omega) rfl L2.pass0 (pa_cons (pe_ix ix_tup (pv 8) pe_int (fun _ _ => rfl)) pa_nil)))
      (pss_cons (ps_if (PW.pt (pw_or (pt_cmpR (op_neD hr.units) (pe_k c_parse_term hr (by omega) rfl passL (pa_cons (pv 12) pa_nil)) (pe_ix ix_tup (pv 8) pe_int (fun _ _ => rfl)) (nomark _)) (pw_or1 (pt_cmpR op_ne (pe_k c_format_term hr (by omega) rfl L2.pass0 (pa_cons (pe_k c_parse_term hr (by omega) rfl passL (pa_cons (pv 12) pa_nil)) pa_nil)) (pv 12) (nomark _)))))
        (pss_one (ps_ret pe_bl))
        pss_nil)
      (pss_one (ps_if (pt_cmpR op_ne (pe_cmpR (op_eqD hr.units) (pe_ix ix_tup (pv 8) pe_int (fun _ _ => rfl)) (pv 4) (nomark _)) (pe_cmpR op_eq (pv 12) (pe_k c_format_term hr (by omega) rfl L2.pass0 (pa_cons (pv 4) pa_nil)) (nomark _)) (nomark _))
        (pss_one (ps_ret pe_bl))
        pss_nil))))
      pss_nil)
    (pss_cons (ps_set (i := 9) S.nd rfl (Or.inl rfl) (pe_k c__law_pick hr (by omega) rfl L2.pass0 (pa_cons (pv 1) (pa_cons (pe_lst (pa_cons pe_str (pa_cons pe_str (pa_cons pe_str pa_nil)))) pa_nil))))
    (pss_cons (ps_set (i := 10) S.nd rfl (Or.inr rfl) (pe_op op_add_str (pe_op op_add_str (pe_op op_add_str (pe_op op_add_str pe_str (pe_k c_format_term hr (by omega) rfl L2.pass0 (pa_cons (pv 4) pa_nil))) (pv 9)) (pe_k c_format_term hr (by omega) rfl L2.pass0 (pa_cons (pv 5) pa_nil))) pe_str))
    (C8.pss_cut (ps_set (i := 11) S.nd rfl (Or.inl rfl) (LamX.pe_lamcall (T := LT) (TT := TTry a) (x := "_law_try") (a := "_law_ask") (k := 176) rfl hmt hkt lkt hct hbt D40.S rfl (by first | exact .inl rfl | exact .inr (.inl rfl)) (gives_try (k := 176) T (hr.mono (by decide))) TB rfl hLT hLu (hr.mono (by decide)) (LamX.lamS_by (show LamX.lamSB (defScope ST) _ = true by decide +kernel)) rfl (fun _ _ _ _ _ => rfl) (fun A2 outer2 s2 H2 E2 f2 c2 hr2 => pe_k c_parse_term hr2 (Nat.le_refl _) rfl (passes_call (takes_of rfl rfl rfl rfl) (fun _ _ _ _ h => h)) (pa_cons (pv 10) pa_nil))))
    (pss_one (ps_if (PW.pt (pw_and (pt_cmpR op_eq (pe_ix ix_tup (pv 11) pe_int (fun _ _ => rfl)) pe_str (nomark _)) (pw_and1 (pt_cmpR (op_neD hr.units) (pe_slice sl_tup (pe_ix ix_tup (pv 11) pe_int (fun _ _ => rfl)) (po_some pe_int) po_none) (pe_tup (pa_cons (pv 4) (pa_cons (pv 5) pa_nil))) (nomark _)))))
      (pss_one (ps_ret pe_bl))
      pss_nil))))))))))))))
  (pss_one (ps_ret pe_bl)))), ?_⟩
  refine ⟨_, rfl, c, ns, rfl, hc, fun H0 g sm0 rn0 hg0 => ?_⟩
  have tabs1 : LamX.Tabs LT H0 := tabs0.ext sm0
  refine ⟨4, rfl, by decide, by decide, ?_⟩
  refine ⟨fun i m σ H' => m = 4 - i ∧ i ≤ 4 ∧ σ.length = 13 ∧ σ[1]? = some (some (.ref g.1)) ∧ Rng H' g ∧ LamX.Tabs LT H', ⟨_, rfl, by omega, rfl, rfl, rn0, tabs1⟩, ?_⟩
  rintro i m σ H1 ⟨rfl, hi, hsl, hs1, rn1, tb1⟩
  obtain ⟨s0, s1, s2, s3, s4, s5, s6, s7, s8, s9, s10, s11, s12, rfl⟩ : ∃ s0 s1 s2 s3 s4 s5 s6 s7 s8 s9 s10 s11 s12, σ = [s0, s1, s2, s3, s4, s5, s6, s7, s8, s9, s10, s11, s12] := by
    match σ, hsl with
    | [s0, s1, s2, s3, s4, s5, s6, s7, s8, s9, s10, s11, s12], _ => exact ⟨_, _, _, _, _, _, _, _, _, _, _, _, _, rfl⟩
  obtain rfl : s1 = some (.ref g.1) := Option.some.inj hs1
  by_cases hlt : i < 4
  rotate_left
  · exact .inl ⟨by show 4 ≤ i; omega, k _⟩
  refine .inr ⟨hlt, fun σ' H' => σ'.length = 13 ∧ σ'[1]? = some (some (.ref g.1)) ∧ Rng H' g ∧ LamX.Tabs LT H', fun σ' H' q => ⟨_, by omega, rfl, hlt, q⟩, ?_⟩
  rintro y H2 ⟨rfl, rfl⟩
  -- what is drawn and parsed
  have pn : ∀ {A : Tm}, Ok A → pd A ≤ 5 → nodes A ≤ 24 → (fmt A).length ≤ 119 → parseT (fmt A) = some A ∧ ∀ T r, Rb.P 20 (scan (fmt A) ++ [[]]) = some (T, r) → nodes T ≤ 170 := fun {A} o p n l =>
    ⟨parse_fmt o (by omega) (by omega) (by omega), fun T r h => by have := P_nodes h; omega⟩
  refine ⟨_, rfl, g, rfl, rn1, fun H3 nm names b3 rn3 hnm hne => ?_⟩
  refine ⟨_, rfl, _, rfl, g, 5, rfl, by decide, by decide, rn3, fun r4 H4 hr4 b4 rn4 => ⟨_, _, rfl, rfl, _, rfl, g, 1 + r4, nm, names, rfl, by omega, by omega, rn4, ⟨b4 _ _ hne hnm.1, hnm.2⟩, hne, fun u5 A H5 b5 rn5 hA okA pdA ndA lnA => ?_⟩⟩
  refine ⟨u5, A, rfl, hA, okA, by omega, by omega, fun H6 sm6 => ?_⟩
  refine ⟨fmt A, rfl, by omega, (pn okA pdA ndA lnA).2, fun A' hp va H7 sm7 hva => ?_, fun hp => by rw [(pn okA pdA ndA lnA).1] at hp; cases hp⟩
  obtain rfl : A = A' := by rw [(pn okA pdA ndA lnA).1] at hp; exact Option.some.inj hp
  have rn7 := rn5.same (sm6.trans sm7)
  have b7 := (((b3.trans b4).trans b5).same sm6).same sm7
  have hnm7 : H7 nm = _ := sm7 _ _ (sm6 _ _ (b5 _ _ hne (b4 _ _ hne hnm.1)))
  refine ⟨_, rfl, _, rfl, g, 3, rfl, by decide, by decide, rn7, fun r8 H8 hr8 b8 rn8 => ⟨_, _, rfl, rfl, _, rfl, g, 1 + r8, nm, names, rfl, by omega, by omega, rn8, ⟨b8 _ _ hne hnm7, hnm.2⟩, hne, fun u9 B H9 b9 rn9 hB okB pdB ndB lnB => ?_⟩⟩
  refine ⟨u9, B, rfl, hB, okB, by omega, by omega, fun H10 sm10 => ?_⟩
  refine ⟨fmt B, rfl, by omega, (pn okB pdB ndB lnB).2, fun B' hp vb H11 sm11 hvb => ?_, fun hp => by rw [(pn okB pdB ndB lnB).1] at hp; cases hp⟩
  obtain rfl : B = B' := by rw [(pn okB pdB ndB lnB).1] at hp; exact Option.some.inj hp
  have rn11 := rn9.same (sm10.trans sm11)
  have hva11 : TreeAt H11 va A := ((hva.kt (b8.ktR rn7)).kt (b9.ktR rn8)).kt (sm10.trans sm11).kt
  have tb11 : LamX.Tabs LT H11 := by
    have b11 := (((b7.trans b8).trans b9).same sm10).same sm11
    exact tabs_but tb1 b11 rn1
  have shA := shaped_data okA (by omega)
  have shB := shaped_data okB (by omega)
  -- the first test
  refine ⟨_, rfl, va, A, rfl, hva11, okA, by omega, by omega, fun H12 sm12 => ?_⟩
  refine ⟨fmt A, rfl, by omega, (pn okA pdA ndA lnA).2, fun A' hp v3 H13 sm13 hv3 => ?_, fun hp => by rw [(pn okA pdA ndA lnA).1] at hp; cases hp⟩
  obtain rfl : A = A' := by rw [(pn okA pdA ndA lnA).1] at hp; exact Option.some.inj hp
  have sm13 := sm12.trans sm13
  refine ⟨_, rfl, data A, data A, dp_tree hv3, dp_tree (hva11.kt sm13.kt), shA, shA, _, rfl, ?_⟩
  rw [eqv_data okA, decide_eq_true rfl]
  refine ifF rfl ?_
  refine ⟨_, rfl, va, A, rfl, hva11.kt sm13.kt, okA, by omega, by omega, fun H14 sm14 => ⟨_, rfl, vb, B, rfl, hvb.kt (sm13.trans sm14).kt, okB, by omega, by omega, fun H15 sm15 => ?_⟩⟩
  have sm15 := (sm13.trans sm14).trans sm15
  refine ⟨rfl, _, rfl, _, rfl, data A, data B, dp_tree (hva11.kt sm15.kt), dp_tree (hvb.kt sm15.kt), shA, shB, rfl, _, rfl, ?_⟩
  have ef : ∀ {C D : Tm}, Ok C → Ok D → decide (V.str (S (fmt C)) = V.str (S (fmt D))) = decide (C = D) := fun {C D} oc od => by
    rw [neS]
    by_cases h : C = D
    · rw [h, decide_eq_true rfl, decide_eq_true rfl]
    · rw [decide_eq_false h, decide_eq_false fun q => h (fmt_inj oc od q)]
  rw [eqv_data okA, ef okA okB]
  have nbl : ∀ b : Bool, (!decide (V.bl b = V.bl b)) = false := fun b => by rw [decide_eq_true rfl]; rfl
  refine ifF (nbl _) ?_
  have rn15 := rn11.same sm15
  have tb15 := tb11.ext sm15
  have hvaE := hva11.kt sm15.kt
  have hvbE := hvb.kt sm15.kt
  -- the bent text
  refine ⟨by decide, fun sl hsl0 => ?_⟩
  have sm16 : Same H15 (upd H15 sl (.lst [V.str " ", .str "(", .str ")", .str "-", .str "1", .str ",", .str "^2", .str "+a", .str "x", .str "|"])) := Same.new hsl0
  have hsl1 : (upd H15 sl (.lst [V.str " ", .str "(", .str ")", .str "-", .str "1", .str ",", .str "^2", .str "+a", .str "x", .str "|"])) sl = some (.lst (([[32], [40], [41], [45], [49], [44], [94, 50], [43, 97], [120], [124]] : List Tx).map fun s => V.str (S s))) := upd_same
  have hslg := (free_ne rn15 hsl0).1
  generalize upd H15 sl (.lst [V.str " ", .str "(", .str ")", .str "-", .str "1", .str ",", .str "^2", .str "+a", .str "x", .str "|"]) = H16 at sm16 hsl1
  refine ⟨_, rfl, _, rfl, va, A, rfl, hvaE.kt sm16.kt, okA, by omega, by omega, fun H17 sm17 => ⟨_, rfl, g, fmt A, sl, _, rfl, by omega, rn15.same (sm16.trans sm17), sm17 _ _ hsl1, hslg, by decide, by decide, by decide, fun t H18 b18 rn18 hlt18 => ?_⟩⟩
  have sm17 := sm16.trans sm17
  have b18' := ((But.refl g.1 H15).same sm17).trans b18
  have tb18 := tabs_but tb15 b18' rn15
  have hva18 := hvaE.kt (b18'.ktR rn15)
  have hvb18 := hvbE.kt (b18'.ktR rn15)
  have hl122 : t.length ≤ 121 := by omega
  have nT : ∀ T r, Rb.P 20 (scan t ++ [[]]) = some (T, r) → nodes T ≤ 170 := fun T r h => by have := P_nodes h; omega
  let st : Option V → Option V → List (Option V) := fun v8 v12 => [s0, some (.ref g.1), some (.int (0 + (i : Int))), some (.ref nm), some va, some vb, some (.ref sl), some (.str (S t)), v8, s9, s10, s11, v12]
  refine ⟨fun σ' H' => ∃ q code v, σ' = st (some (.ref q)) s12 ∧ H' q = some (.tup [.str code, v]) ∧ (code = ("value" : Str) → ∃ TT, parseT t = some TT ∧ TreeAt H' v TT) ∧ Rng H' g ∧ LamX.Tabs LT H' ∧ TreeAt H' va A ∧ TreeAt H' vb B, ?_, ?_⟩
  · refine ⟨tb18, fun H19 e19 tb19 => ⟨_, rfl, t, rfl, by omega, nT, fun TT hp v H20 sm20 hv => ⟨by decide, fun q hq => ?_⟩, fun hp cls d H20 sm20 he => ⟨he, fun H21 q code v sm21 hq hcode => ?_⟩⟩⟩
    · have sm21 := sm20.trans (Same.new (o := .tup [.str "value", v]) hq)
      exact ⟨q, "value", v, rfl, upd_same, fun _ => ⟨TT, hp, hv.kt (Same.new hq).kt⟩, (extn_rng e19 rn18).same sm21, tb19.ext sm21, (hva18.kt (extn_kt e19)).kt sm21.kt, (hvb18.kt (extn_kt e19)).kt sm21.kt⟩
    · have sm22 := sm20.trans sm21
      exact ⟨q, code, v, rfl, hq, fun z => (hcode z).elim, (extn_rng e19 rn18).same sm22, tb19.ext sm22, (hva18.kt (extn_kt e19)).kt sm22.kt, (hvb18.kt (extn_kt e19)).kt sm22.kt⟩
  rintro σ8 H22 ⟨q8, code, v8, rfl, hq8, hcv, rn22, tb22, hva22, hvb22⟩
  refine ⟨fun σ' H' => ∃ v12, σ' = st (some (.ref q8)) v12 ∧ Rng H' g ∧ LamX.Tabs LT H' ∧ TreeAt H' va A ∧ TreeAt H' vb B, ?_, ?_⟩
  · refine ⟨_, rfl, q8, _, _, _, rfl, rfl, SqT.of hq8, at_of (j := 0) rfl rfl, rfl, _, rfl, ?_⟩
    by_cases hval : code = ("value" : Str)
    rotate_left
    · exact ifF (dnS hval) ⟨_, rfl, rn22, tb22, hva22, hvb22⟩
    obtain ⟨TT, hp, hv⟩ := hcv hval
    obtain ⟨okT, pdT, ndT, lnT, _⟩ := parse_sound hp
    have hpT := parse_again hp (by omega)
    have nTT : ∀ T r, Rb.P 20 (scan (fmt TT) ++ [[]]) = some (T, r) → nodes T ≤ 170 := fun T r h => by rw [parse_P hpT h]; omega
    have shT := shaped_data okT ndT
    have lnT2 : (fmt TT).length ≤ 1000 := by omega
    refine ifT (deS hval) ⟨_, rfl, q8, _, _, _, rfl, rfl, SqT.of hq8, at_of (j := 1) rfl rfl, v8, TT, rfl, hv, okT, ndT, lnT2, fun H23 sm23 => ?_⟩
    refine ⟨_, rfl, fmt TT, rfl, by omega, nTT, fun T' hp' v' H24 sm24 hv' => ?_, fun hp' => by rw [hpT] at hp'; cases hp'⟩
    obtain rfl : TT = T' := by rw [hpT] at hp'; exact Option.some.inj hp'
    have sm24 := sm23.trans sm24
    refine ⟨_, rfl, q8, _, _, _, rfl, rfl, SqT.of (sm24 _ _ hq8), at_of (j := 1) rfl rfl, data TT, data TT, dp_tree hv', dp_tree (hv.kt sm24.kt), shT, shT, _, rfl, ?_⟩
    rw [eqv_data okT, decide_eq_true rfl]
    refine ifF rfl ⟨_, rfl, fmt TT, rfl, by omega, nTT, fun T' hp' v' H25 sm25 hv' => ?_, fun hp' => by rw [hpT] at hp'; cases hp'⟩
    obtain rfl : TT = T' := by rw [hpT] at hp'; exact Option.some.inj hp'
    refine ⟨v', TT, rfl, hv', okT, ndT, lnT2, fun H26 sm26 => ⟨_, rfl, rfl, _, rfl, ?_⟩⟩
    rw [decide_eq_true rfl]
    have sm26 := (sm24.trans sm25).trans sm26
    refine ifF rfl ?_
    refine ⟨_, rfl, q8, _, _, _, rfl, rfl, SqT.of (sm26 _ _ hq8), at_of (j := 1) rfl rfl, _, rfl, data TT, data A, dp_tree (hv.kt sm26.kt), dp_tree (hva22.kt sm26.kt), shT, shA, _, rfl, _, rfl, va, A, rfl, hva22.kt sm26.kt, okA, by omega, by omega, fun H27 sm27 => ⟨rfl, rfl, _, rfl, ?_⟩⟩
    rw [eqv_data okT, ef okT okA]
    have sm27 := sm26.trans sm27
    exact ifF (nbl _) ⟨_, rfl, rn22.same sm27, tb22.ext sm27, hva22.kt sm27.kt, hvb22.kt sm27.kt⟩
  rintro σ9 H28 ⟨v12, rfl, rn28, tb28, hva28, hvb28⟩
  -- both at once
  refine ⟨_, rfl, by decide, fun sl2 hsl2 => ?_⟩
  have sm29 : Same H28 (upd H28 sl2 (.lst [V.str ") | (", .str ") - (", .str ") / ("])) := Same.new hsl2
  have hsl29 : (upd H28 sl2 (.lst [V.str ") | (", .str ") - (", .str ") / ("])) sl2 = some (.lst (([.join, .diff, .quot] : List Bop).map fun o => V.str (S [41, 32, o.sym, 32, 40]))) := upd_same
  have hslg2 := (free_ne rn28 hsl2).1
  generalize upd H28 sl2 (.lst [V.str ") | (", .str ") - (", .str ") / ("]) = H29 at sm29 hsl29
  have rn29 := rn28.same sm29
  refine ⟨g, sl2, _, rfl, rn29, hsl29, hslg2, by decide, by decide, fun i9 v9 H30 hv9 b30 rn30 => ?_⟩
  obtain ⟨o, rfl⟩ : ∃ o : Bop, v9 = .str (S [41, 32, o.sym, 32, 40]) := by
    rw [List.getElem?_map] at hv9
    cases h : ([.join, .diff, .quot] : List Bop)[i9]? with
    | none => rw [h] at hv9; cases hv9
    | some o => rw [h] at hv9; exact ⟨o, (Option.some.inj hv9).symm⟩
  have b30' : But g.1 H28 H30 := ((But.refl g.1 H28).same sm29).trans b30
  have tb30 := tabs_but tb28 b30' rn28
  have hva30 := hva28.kt (b30'.ktR rn28)
  have hvb30 := hvb28.kt (b30'.ktR rn28)
  refine ⟨_, rfl, va, A, rfl, hva30, okA, by omega, by omega, fun H31 sm31 => ⟨S [40], _, rfl, rfl, by (simp only [S_cat, S_len, List.length_append, List.length_cons, List.length_nil]; exact szL (by omega)), _, rfl, _, _, rfl, rfl, by (simp only [S_cat, S_len, List.length_append, List.length_cons, List.length_nil]; exact szL (by omega)), _, rfl, vb, B, rfl, hvb30.kt sm31.kt, okB, by omega, by omega, fun H32 sm32 => ⟨_, _, rfl, rfl, by (simp only [S_cat, S_len, List.length_append, List.length_cons, List.length_nil]; exact szL (by omega)), _, S [41], rfl, rfl, by (simp only [S_cat, S_len, List.length_append, List.length_cons, List.length_nil]; exact szL (by omega)), ?_⟩⟩⟩
  have sm32 := sm31.trans sm32
  have rn32 := rn30.same sm32
  have tb32 := tb30.ext sm32
  have hva32 := hva30.kt sm32.kt
  have hvb32 := hvb30.kt sm32.kt
  rw [S_cat, S_cat, S_cat, S_cat]
  have etx : (((([40] ++ fmt A) ++ [41, 32, o.sym, 32, 40]) ++ fmt B) ++ [41] : Tx) = 40 :: (fmt A ++ (41 :: 32 :: o.sym :: 32 :: 40 :: (fmt B ++ [41]))) := by simp
  rw [etx]
  have hbl : (40 :: (fmt A ++ (41 :: 32 :: o.sym :: 32 :: 40 :: (fmt B ++ [41])))).length ≤ 250 := by simp; omega
  have hbP := both_parse okA okB (Nat.le_trans pdA (by decide)) (Nat.le_trans pdB (by decide)) (o := o)
  have hbI : ∀ T, parseT (40 :: (fmt A ++ (41 :: 32 :: o.sym :: 32 :: 40 :: (fmt B ++ [41])))) = some T → T = .bin o A B := fun T h => both_is okA okB (Nat.le_trans pdA (by decide)) (Nat.le_trans pdB (by decide)) h
  generalize 40 :: (fmt A ++ (41 :: 32 :: o.sym :: 32 :: 40 :: (fmt B ++ [41]))) = bt at hbl hbP hbI
  have nB : ∀ T r, Rb.P 20 (scan bt ++ [[]]) = some (T, r) → nodes T ≤ 170 := fun T r h => by
    rw [hbP] at h
    cases h
    show 1 + (nodes A + nodes B) ≤ 170
    omega
  refine ⟨fun σ' H' => ∃ q code v s9' s10', σ' = [s0, some (.ref g.1), some (.int (0 + (i : Int))), some (.ref nm), some va, some vb, some (.ref sl), some (.str (S t)), some (.ref q8), s9', s10', some (.ref q), v12] ∧ H' q = some (.tup [.str code, v]) ∧ (code = ("value" : Str) → TreeAt H' v (.bin o A B)) ∧ Rng H' g ∧ LamX.Tabs LT H' ∧ TreeAt H' va A ∧ TreeAt H' vb B, ?_, ?_⟩
  · refine ⟨tb32, fun H33 e33 tb33 => ⟨_, rfl, bt, rfl, by omega, nB, fun TT hp v H34 sm34 hv => ⟨by decide, fun q hq => ?_⟩, fun hp cls d H34 sm34 he => ⟨he, fun H35 q code v sm35 hq hcode => ?_⟩⟩⟩
    · have sm35 := sm34.trans (Same.new (o := .tup [.str "value", v]) hq)
      rw [hbI TT hp] at hv
      exact ⟨q, "value", v, _, _, rfl, upd_same, fun _ => hv.kt (Same.new hq).kt, (extn_rng e33 rn32).same sm35, tb33.ext sm35, (hva32.kt (extn_kt e33)).kt sm35.kt, (hvb32.kt (extn_kt e33)).kt sm35.kt⟩
    · have sm36 := sm34.trans sm35
      exact ⟨q, code, v, _, _, rfl, hq, fun z => (hcode z).elim, (extn_rng e33 rn32).same sm36, tb33.ext sm36, (hva32.kt (extn_kt e33)).kt sm36.kt, (hvb32.kt (extn_kt e33)).kt sm36.kt⟩
  rintro σ10 H37 ⟨q11, code, v11, s9', s10', rfl, hq11, hcv, rn37, tb37, hva37, hvb37⟩
  refine ⟨_, rfl, q11, _, _, _, rfl, rfl, SqT.of hq11, at_of (j := 0) rfl rfl, rfl, _, rfl, ?_⟩
  by_cases hval : code = ("value" : Str)
  rotate_left
  · exact ifF (dnS hval) (ifF rfl ⟨rfl, rfl, rn37, tb37⟩)
  obtain ⟨bb, vx, vy, rfl, hbb, hx, hy⟩ := hcv hval
  refine ifT (deS hval) ⟨_, rfl, q11, _, _, _, rfl, rfl, SqT.of hq11, at_of (j := 1) rfl rfl, _, rfl, bb, _, rfl, SqT.of hbb, (by show ¬ (HT.sIx 3 0 (some 1) = 0 ∧ _); rintro ⟨h, _⟩; exact absurd h (by decide)), fun p hp => ?_⟩
  have hcut : cutV [V.str (bw o), vx, vy] (some 1) none = [vx, vy] := cut_from [V.str (bw o), vx, vy] 1
  rw [hcut]
  have sm38 : Same H37 (upd H37 p (.tup [vx, vy])) := Same.new hp
  have hp38 : (upd H37 p (.tup [vx, vy])) p = some (.tup [vx, vy]) := upd_same
  generalize upd H37 p (.tup [vx, vy]) = H38 at sm38 hp38
  refine ⟨_, rfl, _, rfl, (show 2 ≤ sizeLine by decide), fun p2 hp2 => ?_⟩
  have sm39 : Same H38 (upd H38 p2 (.tup [va, vb])) := Same.new hp2
  have hp39 : (upd H38 p2 (.tup [va, vb])) p2 = some (.tup [va, vb]) := upd_same
  generalize upd H38 p2 (.tup [va, vb]) = H39 at sm39 hp39
  have k39 := (sm38.trans sm39).kt
  have lay : (PyData.tuple [data A, data B]).canLay0 = true := by
    simp only [PyData.canLay0, PyData.canLayAll0, lay_data okA, lay_data okB]; rfl
  have shp : SeqAt.shaped (PyData.tuple [data A, data B]) = true := by
    unfold SeqAt.shaped
    have h1 := dep_data A
    have h2 := dep_data B
    rw [lay, decide_eq_true (by simp only [PyData.depth, PyData.depthAll]; have : max (data A).depth (max (data B).depth 0) ≤ 63 := Nat.max_le.mpr ⟨by omega, Nat.max_le.mpr ⟨by omega, by decide⟩⟩; omega)]
    rfl
  refine ⟨.tuple [data A, data B], .tuple [data A, data B], .tup (SqT.of (sm39 _ _ hp38)) (.cons (dp_tree (hx.kt k39)) (.cons (dp_tree (hy.kt k39)) .nil)), .tup (SqT.of hp39) (.cons (dp_tree (hva37.kt k39)) (.cons (dp_tree (hvb37.kt k39)) .nil)), shp, shp, _, rfl, ?_⟩
  rw [SeqAt.eqv_refl _ lay]
  exact ifF rfl ⟨rfl, rfl, rn37.same (sm38.trans sm39), tb37.ext (sm38.trans sm39)⟩
end Rb
set_option maxRecDepth 100000
set_option maxHeartbeats 4000000
namespace Rb
open PySem PySem.Spec PyProof.Rows L2 SX RbR
open TL (numL)
/-! ### what the top has written, as one check -/
def fas : List He.Fa := [.free "abs",
  .free "len",
  .free "tuple",
  .free "list",
  .free "int",
  .free "str",
  .free "sum",
  .free "isinstance",
  .free "enumerate",
  .free "zip",
  .free "range",
  .free "ValueError",
  .str "DIGITS" "0123456789",
  .str "LETTERS" "abcdefghijklmnopqrstuvwxyz",
  .int "MAX_FIGURES" 100,
  .int "MAX_TEXT" 400,
  .int "MAX_OPEN" 20,
  .int "MAX_NODES" 60,
  .glo "common_divisor",
  .keep "common_divisor",
  .glo "lowest",
  .keep "lowest",
  .glo "text_of",
  .keep "text_of",
  .glo "trimmed",
  .keep "trimmed",
  .glo "run_of",
  .keep "run_of",
  .glo "tokens_of",
  .keep "tokens_of",
  .glo "node_count",
  .keep "node_count",
  .glo "parts_of",
  .keep "parts_of",
  .glo "parse_term",
  .keep "parse_term",
  .glo "tree_of",
  .keep "tree_of",
  .glo "numbers_text",
  .keep "numbers_text",
  .glo "wrapped",
  .keep "wrapped",
  .glo "item_text",
  .keep "item_text",
  .glo "format_term",
  .keep "format_term",
  .glo "_law_draws",
  .keep "_law_draws",
  .glo "_law_draw",
  .keep "_law_draw",
  .glo "_law_pick",
  .keep "_law_pick",
  .glo "_law_field",
  .keep "_law_field",
  .glo "_law_try",
  .keep "_law_try",
  .glo "_law_gcd",
  .keep "_law_gcd",
  .glo "_law_low",
  .keep "_law_low",
  .glo "_law_trim",
  .keep "_law_trim",
  .glo "_law_value",
  .keep "_law_value",
  .glo "_law_tree",
  .keep "_law_tree",
  .glo "_law_number_text",
  .keep "_law_number_text",
  .glo "_law_numbers_text",
  .keep "_law_numbers_text",
  .glo "_law_level",
  .keep "_law_level",
  .glo "_law_operand",
  .keep "_law_operand",
  .glo "_law_text",
  .keep "_law_text",
  .glo "_law_parts",
  .keep "_law_parts",
  .glo "_law_nodes",
  .keep "_law_nodes",
  .glo "_law_term_names",
  .keep "_law_term_names",
  .glo "_law_wanted_tree",
  .keep "_law_wanted_tree",
  .glo "_law_bent_text",
  .keep "_law_bent_text",
  .glo "law",
  .keep "law",
  .glo "Reader",
  .cls "Reader",
  .noat "Reader" "tokens",
  .noat "Reader" "at",
  .noat "Reader" "opened",
  .mkr "Reader",
  .meth "Reader" "__init__",
  .meth "Reader" "token",
  .meth "Reader" "fail",
  .meth "Reader" "take",
  .meth "Reader" "enter",
  .meth "Reader" "leave",
  .meth "Reader" "natural",
  .meth "Reader" "rational",
  .meth "Reader" "numbers",
  .meth "Reader" "term",
  .meth "Reader" "signed",
  .meth "Reader" "atom",
  .meth "Reader" "argument",
  .glo "InvalidText",
  .noat "InvalidText" "code",
  .noat "InvalidText" "position",
  .exm "InvalidText" "BagError" true,
  .meth "InvalidText" "__init__",
  .glo "NestingTooDeep",
  .noat "NestingTooDeep" "code",
  .noat "NestingTooDeep" "limit",
  .exm "NestingTooDeep" "BagError" true,
  .meth "NestingTooDeep" "__init__",
  .glo "TermTooLarge",
  .noat "TermTooLarge" "code",
  .noat "TermTooLarge" "limit",
  .exm "TermTooLarge" "BagError" true,
  .meth "TermTooLarge" "__init__",
  .glo "BagError",
  .meth "BagError" "__init__"]
def fns : List He.FnD := [⟨("common_divisor", none), "common_divisor", "common_divisor", defArgs (top 11), defBody (top 11), defScope (top 11)⟩,
  ⟨("lowest", none), "lowest", "lowest", defArgs (top 12), defBody (top 12), defScope (top 12)⟩,
  ⟨("text_of", none), "text_of", "text_of", defArgs (top 13), defBody (top 13), defScope (top 13)⟩,
  ⟨("trimmed", none), "trimmed", "trimmed", defArgs (top 15), defBody (top 15), defScope (top 15)⟩,
  ⟨("run_of", none), "run_of", "run_of", defArgs (top 24), defBody (top 24), defScope (top 24)⟩,
  ⟨("tokens_of", none), "tokens_of", "tokens_of", defArgs (top 25), defBody (top 25), defScope (top 25)⟩,
  ⟨("node_count", none), "node_count", "node_count", defArgs (top 27), defBody (top 27), defScope (top 27)⟩,
  ⟨("parts_of", none), "parts_of", "parts_of", defArgs (top 28), defBody (top 28), defScope (top 28)⟩,
  ⟨("parse_term", none), "parse_term", "parse_term", defArgs (top 29), defBody (top 29), defScope (top 29)⟩,
  ⟨("tree_of", none), "tree_of", "tree_of", defArgs (top 30), defBody (top 30), defScope (top 30)⟩,
  ⟨("numbers_text", none), "numbers_text", "numbers_text", defArgs (top 31), defBody (top 31), defScope (top 31)⟩,
  ⟨("wrapped", none), "wrapped", "wrapped", defArgs (top 32), defBody (top 32), defScope (top 32)⟩,
  ⟨("item_text", none), "item_text", "item_text", defArgs (top 33), defBody (top 33), defScope (top 33)⟩,
  ⟨("format_term", none), "format_term", "format_term", defArgs (top 34), defBody (top 34), defScope (top 34)⟩,
  ⟨("_law_draws", none), "_law_draws", "_law_draws", defArgs (top 36), defBody (top 36), defScope (top 36)⟩,
  ⟨("_law_draw", none), "_law_draw", "_law_draw", defArgs (top 37), defBody (top 37), defScope (top 37)⟩,
  ⟨("_law_pick", none), "_law_pick", "_law_pick", defArgs (top 38), defBody (top 38), defScope (top 38)⟩,
  ⟨("_law_field", none), "_law_field", "_law_field", defArgs (top 39), defBody (top 39), defScope (top 39)⟩,
  ⟨("_law_try", none), "_law_try", "_law_try", defArgs (top 40), defBody (top 40), defScope (top 40)⟩,
  ⟨("_law_gcd", none), "_law_gcd", "_law_gcd", defArgs (top 41), defBody (top 41), defScope (top 41)⟩,
  ⟨("_law_low", none), "_law_low", "_law_low", defArgs (top 42), defBody (top 42), defScope (top 42)⟩,
  ⟨("_law_trim", none), "_law_trim", "_law_trim", defArgs (top 43), defBody (top 43), defScope (top 43)⟩,
  ⟨("_law_value", none), "_law_value", "_law_value", defArgs (top 44), defBody (top 44), defScope (top 44)⟩,
  ⟨("_law_tree", none), "_law_tree", "_law_tree", defArgs (top 45), defBody (top 45), defScope (top 45)⟩,
  ⟨("_law_number_text", none), "_law_number_text", "_law_number_text", defArgs (top 46), defBody (top 46), defScope (top 46)⟩,
  ⟨("_law_numbers_text", none), "_law_numbers_text", "_law_numbers_text", defArgs (top 47), defBody (top 47), defScope (top 47)⟩,
  ⟨("_law_level", none), "_law_level", "_law_level", defArgs (top 48), defBody (top 48), defScope (top 48)⟩,
  ⟨("_law_operand", none), "_law_operand", "_law_operand", defArgs (top 49), defBody (top 49), defScope (top 49)⟩,
  ⟨("_law_text", none), "_law_text", "_law_text", defArgs (top 50), defBody (top 50), defScope (top 50)⟩,
  ⟨("_law_parts", none), "_law_parts", "_law_parts", defArgs (top 51), defBody (top 51), defScope (top 51)⟩,
  ⟨("_law_nodes", none), "_law_nodes", "_law_nodes", defArgs (top 52), defBody (top 52), defScope (top 52)⟩,
  ⟨("_law_term_names", none), "_law_term_names", "_law_term_names", defArgs (top 53), defBody (top 53), defScope (top 53)⟩,
  ⟨("_law_wanted_tree", none), "_law_wanted_tree", "_law_wanted_tree", defArgs (top 54), defBody (top 54), defScope (top 54)⟩,
  ⟨("_law_bent_text", none), "_law_bent_text", "_law_bent_text", defArgs (top 55), defBody (top 55), defScope (top 55)⟩,
  ⟨("law", none), "law", "law", defArgs (top 56), defBody (top 56), defScope (top 56)⟩,
  ⟨("Reader", some "__init__"), "__init__", "Reader.__init__", defArgs (inCls 26 0), defBody (inCls 26 0), defScope (inCls 26 0)⟩,
  ⟨("Reader", some "token"), "token", "Reader.token", defArgs (inCls 26 1), defBody (inCls 26 1), defScope (inCls 26 1)⟩,
  ⟨("Reader", some "fail"), "fail", "Reader.fail", defArgs (inCls 26 2), defBody (inCls 26 2), defScope (inCls 26 2)⟩,
  ⟨("Reader", some "take"), "take", "Reader.take", defArgs (inCls 26 3), defBody (inCls 26 3), defScope (inCls 26 3)⟩,
  ⟨("Reader", some "enter"), "enter", "Reader.enter", defArgs (inCls 26 4), defBody (inCls 26 4), defScope (inCls 26 4)⟩,
  ⟨("Reader", some "leave"), "leave", "Reader.leave", defArgs (inCls 26 5), defBody (inCls 26 5), defScope (inCls 26 5)⟩,
  ⟨("Reader", some "natural"), "natural", "Reader.natural", defArgs (inCls 26 6), defBody (inCls 26 6), defScope (inCls 26 6)⟩,
  ⟨("Reader", some "rational"), "rational", "Reader.rational", defArgs (inCls 26 7), defBody (inCls 26 7), defScope (inCls 26 7)⟩,
  ⟨("Reader", some "numbers"), "numbers", "Reader.numbers", defArgs (inCls 26 8), defBody (inCls 26 8), defScope (inCls 26 8)⟩,
  ⟨("Reader", some "term"), "term", "Reader.term", defArgs (inCls 26 9), defBody (inCls 26 9), defScope (inCls 26 9)⟩,
  ⟨("Reader", some "signed"), "signed", "Reader.signed", defArgs (inCls 26 10), defBody (inCls 26 10), defScope (inCls 26 10)⟩,
  ⟨("Reader", some "atom"), "atom", "Reader.atom", defArgs (inCls 26 11), defBody (inCls 26 11), defScope (inCls 26 11)⟩,
  ⟨("Reader", some "argument"), "argument", "Reader.argument", defArgs (inCls 26 12), defBody (inCls 26 12), defScope (inCls 26 12)⟩,
  ⟨("InvalidText", some "__init__"), "__init__", "InvalidText.__init__", defArgs (inCls 4 0), defBody (inCls 4 0), defScope (inCls 4 0)⟩,
  ⟨("NestingTooDeep", some "__init__"), "__init__", "NestingTooDeep.__init__", defArgs (inCls 5 0), defBody (inCls 5 0), defScope (inCls 5 0)⟩,
  ⟨("TermTooLarge", some "__init__"), "__init__", "TermTooLarge.__init__", defArgs (inCls 6 0), defBody (inCls 6 0), defScope (inCls 6 0)⟩,
  ⟨("BagError", some "__init__"), "__init__", "BagError.__init__", defArgs (inCls 1 0), defBody (inCls 1 0), defScope (inCls 1 0)⟩]
section
variable {w : World} {K : PySem.W.Frag} {h : Heap} {mg : Str → Option Value}
theorem dfn_of (X : K.In h) (G : h.Ns mainGlobals mg) {d : He.FnD} {st : Stmt} {x : Str} (hd : d = ⟨(x, none), x, x, defArgs st, defBody st, defScope st⟩)
    (e : ∃ oc od osl kV doc pm an cdv ct, K.lookup (He.fAd K d.at_) = some ⟨oc, od, .func (PySem.W.fnOf d.name d.qual d.params d.body d.scope .none kV doc pm an cdv ct), osl⟩ ∧ PySem.W.codeIn K cdv d.qual = true)
    (g : (He.Fa.glo x).ok K = true) (k : (He.Fa.keep x).ok K = true) : Dfn K mg x st := by
  subst hd
  obtain ⟨oc, od, osl, kV, doc, pm, an, cdv, ct, l, c⟩ := e
  exact ⟨He.ga K x, _, fun_mk l c (He.keep_ok k), He.glo_ok X G g⟩
theorem mtd_of {d : He.FnD} {st : Stmt} {x m q : Str} (hd : d = ⟨(x, some m), m, q, defArgs st, defBody st, defScope st⟩)
    (e : ∃ oc od osl kV doc pm an cdv ct, K.lookup (He.fAd K d.at_) = some ⟨oc, od, .func (PySem.W.fnOf d.name d.qual d.params d.body d.scope .none kV doc pm an cdv ct), osl⟩ ∧ PySem.W.codeIn K cdv d.qual = true)
    (g : (He.Fa.meth x m).ok K = true) : ∃ fd, L2.Fun K m q st (He.ma K (He.ga K x) m) fd ∧ Meth K (He.ga K x) m (He.ma K (He.ga K x) m) := by
  subst hd
  obtain ⟨oc, od, osl, kV, doc, pm, an, cdv, ct, l, c⟩ := e
  have me := He.meth_ok g
  obtain ⟨_, _, c3⟩ := me
  exact ⟨_, fun_mk l c c3, He.meth_ok g⟩
theorem ga_of {x : Str} {C : Addr} (e : PySem.W.nsIn K mainGlobals x = some (some (.ref C))) : He.ga K x = C := by
  unfold He.ga
  rw [e]
theorem ma_of {C f : Addr} {m : Str} (e : PySem.W.findIn K (.ref C) m = some (some (.ref f))) : He.ma K C m = f := by
  unfold He.ma
  rw [e]
theorem errC_of (X : K.In h) (G : h.Ns mainGlobals mg) {d : He.FnD} {x q fld : Str} {st : Stmt} {C f c1 : Addr} {nm q2 : Str} {N : Addr} {bs bm : List Value} {sn : List Str} {sub : List Value} {ab : Bool} {col : Option Bool} {dd : Option Addr} {m0 m1 m2 m3 m5 : Option Value}
    (gx : PySem.W.nsIn K mainGlobals x = some (some (.ref C))) (lx : K.lookup C = some (excClassObj nm q2 C N bs bm true sn sub ab col dd m0 m1 m2 m3 m5 "ValueError.__new__")) (rx : PySem.HandSPX.refsVE bm = true)
    (sa : PySem.W.findIn K (.ref C) "__setattr__" = some (some (.builtin "object.__setattr__"))) (xf : xfB K C = true) (ix : PySem.W.findIn K (.ref C) "__init__" = some (some (.ref f))) (tx : PySem.W.typeIn K (.ref f) = some (.type "function"))
    (hd : d = ⟨(x, some "__init__"), "__init__", q, defArgs st, defBody st, defScope st⟩)
    (e : ∃ oc od osl kV doc pm an cdv ct, K.lookup (He.fAd K d.at_) = some ⟨oc, od, .func (PySem.W.fnOf d.name d.qual d.params d.body d.scope .none kV doc pm an cdv ct), osl⟩ ∧ PySem.W.codeIn K cdv d.qual = true)
    (me : (He.Fa.meth x "__init__").ok K = true) (kC : PySem.W.keepIn K (.ref C) = true) (eC : PySem.W.subIn K (.ref C) (.type "BaseException") = some true) (tC : PySem.W.typeIn K (.ref C) = some (.type "type")) (nC : (He.Fa.noat x "code").ok K = true) (nF : (He.Fa.noat x fld).ok K = true) (ex : (He.Fa.exm x "BagError" true).ok K = true) (g1 : PySem.W.nsIn K mainGlobals "BagError" = some (some (.ref c1))) :
    ErrC K mg C c1 x q fld st := by
  obtain ⟨fd, F, _⟩ := mtd_of hd e me
  have e1 := ga_of gx
  have n1 := He.noat_ok nC
  have n2 := He.noat_ok nF
  have ex := He.exm_ok ex
  rw [e1] at F n1 n2 ex
  rw [ma_of ix] at F
  rw [ga_of g1] at ex
  exact ⟨PySem.W.mg_of X G gx, ⟨⟨nm, q2, N, bs, bm, sn, sub, ab, col, dd, m0, m1, m2, m3, m5, lx, rx⟩, sa, eC, tC, kC⟩, xfB_ok xf, ⟨f, fd, F, ix, tx⟩, n1, n2, ex⟩
theorem txt_mk (X : K.In h) (G : h.Ns mainGlobals mg) {C1 f1 C4 fi4 C5 fi5 C6 fi6 dp dl df zr : Addr} {es1 es2 es3 : Array DictEntry} {n1 n2 n3 : Nat} {oz : Obj} {itz : Array Value} {nz : Nat} {nm4 q4 : Str} {N4 : Addr} {bs4 bm4 : List Value} {sn4 : List Str} {sub4 : List Value} {ab4 : Bool} {col4 : Option Bool} {dd4 : Option Addr} {ma4 mb4 mc4 md4 me4 : Option Value} {nm5 q5 : Str} {N5 : Addr} {bs5 bm5 : List Value} {sn5 : List Str} {sub5 : List Value} {ab5 : Bool} {col5 : Option Bool} {dd5 : Option Addr} {ma5 mb5 mc5 md5 me5 : Option Value} {nm6 q6 : Str} {N6 : Addr} {bs6 bm6 : List Value} {sn6 : List Str} {sub6 : List Value} {ab6 : Bool} {col6 : Option Bool} {dd6 : Option Addr} {ma6 mb6 mc6 md6 me6 : Option Value}
    (c : He.SaysE fas fns K)
    (g1 : PySem.W.nsIn K mainGlobals "BagError" = some (some (.ref C1)))
    (i1 : PySem.W.findIn K (.ref C1) "__init__" = some (some (.ref f1)))
    (j1 : PySem.W.findCls K (.ref C1) (.type "type") "__init__" = some (.val (.ref f1)))
    (rd : PySem.W.readsIn K C1 (.type "type") = true)
    (sg : PySem.W.specialIn K (.ref C1) "__getattribute__" = some (some (.builtin "type.__getattribute__")))
    (ve : PySem.W.findCls K (.type "ValueError") (.type "type") "__init__" = some (.val (.builtin "ValueError.__init__")))
    (g4 : PySem.W.nsIn K mainGlobals "InvalidText" = some (some (.ref C4)))
    (x4 : K.lookup C4 = some (excClassObj nm4 q4 C4 N4 bs4 bm4 true sn4 sub4 ab4 col4 dd4 ma4 mb4 mc4 md4 me4 "ValueError.__new__"))
    (rv4 : PySem.HandSPX.refsVE bm4 = true)
    (sa4 : PySem.W.findIn K (.ref C4) "__setattr__" = some (some (.builtin "object.__setattr__")))
    (xf4 : xfB K C4 = true)
    (i4 : PySem.W.findIn K (.ref C4) "__init__" = some (some (.ref fi4)))
    (t4 : PySem.W.typeIn K (.ref fi4) = some (.type "function"))
    (kc4 : PySem.W.keepIn K (.ref C4) = true)
    (ec4 : PySem.W.subIn K (.ref C4) (.type "BaseException") = some true)
    (tc4 : PySem.W.typeIn K (.ref C4) = some (.type "type"))
    (g5 : PySem.W.nsIn K mainGlobals "NestingTooDeep" = some (some (.ref C5)))
    (x5 : K.lookup C5 = some (excClassObj nm5 q5 C5 N5 bs5 bm5 true sn5 sub5 ab5 col5 dd5 ma5 mb5 mc5 md5 me5 "ValueError.__new__"))
    (rv5 : PySem.HandSPX.refsVE bm5 = true)
    (sa5 : PySem.W.findIn K (.ref C5) "__setattr__" = some (some (.builtin "object.__setattr__")))
    (xf5 : xfB K C5 = true)
    (i5 : PySem.W.findIn K (.ref C5) "__init__" = some (some (.ref fi5)))
    (t5 : PySem.W.typeIn K (.ref fi5) = some (.type "function"))
    (kc5 : PySem.W.keepIn K (.ref C5) = true)
    (ec5 : PySem.W.subIn K (.ref C5) (.type "BaseException") = some true)
    (tc5 : PySem.W.typeIn K (.ref C5) = some (.type "type"))
    (g6 : PySem.W.nsIn K mainGlobals "TermTooLarge" = some (some (.ref C6)))
    (x6 : K.lookup C6 = some (excClassObj nm6 q6 C6 N6 bs6 bm6 true sn6 sub6 ab6 col6 dd6 ma6 mb6 mc6 md6 me6 "ValueError.__new__"))
    (rv6 : PySem.HandSPX.refsVE bm6 = true)
    (sa6 : PySem.W.findIn K (.ref C6) "__setattr__" = some (some (.builtin "object.__setattr__")))
    (xf6 : xfB K C6 = true)
    (i6 : PySem.W.findIn K (.ref C6) "__init__" = some (some (.ref fi6)))
    (t6 : PySem.W.typeIn K (.ref fi6) = some (.type "function"))
    (kc6 : PySem.W.keepIn K (.ref C6) = true)
    (ec6 : PySem.W.subIn K (.ref C6) (.type "BaseException") = some true)
    (tc6 : PySem.W.typeIn K (.ref C6) = some (.type "type"))
    (dpg : PySem.W.nsIn K mainGlobals "PAIRS" = some (some (.ref dp)))
    (dpl : K.lookup dp = some ⟨.type "dict", none, .dict es1 n1, #[]⟩)
    (dpk : PySem.W.KeysLit w.params es1.toList)
    (dps : (dp == sysModules) = false)
    (dpp : Paired (fun (e : DictEntry) (p : Str × V) => (∃ t, e.key = .str p.1 t) ∧ RelV p.2 e.val) es1.toList tPairs)
    (dlg : PySem.W.nsIn K mainGlobals "LEVELS" = some (some (.ref dl)))
    (dll : K.lookup dl = some ⟨.type "dict", none, .dict es2 n2, #[]⟩)
    (dlk : PySem.W.KeysLit w.params es2.toList)
    (dls : (dl == sysModules) = false)
    (dlp : Paired (fun (e : DictEntry) (p : Str × V) => (∃ t, e.key = .str p.1 t) ∧ RelV p.2 e.val) es2.toList tLevels)
    (dfg : PySem.W.nsIn K mainGlobals "FORMS" = some (some (.ref df)))
    (dfl : K.lookup df = some ⟨.type "dict", none, .dict es3 n3, #[]⟩)
    (dfk : PySem.W.KeysLit w.params es3.toList)
    (dfs : (df == sysModules) = false)
    (dfp : Paired (fun (e : DictEntry) (p : Str × V) => (∃ t, e.key = .str p.1 t) ∧ RelV p.2 e.val) es3.toList tForms)
    (zg : PySem.W.nsIn K mainGlobals "ZERO" = some (some (.ref zr)))
    (zl : K.lookup zr = some oz)
    (zc : oz.cls = .type "tuple")
    (zd : oz.data = .seq itz nz)
    (zn : itz.size ≤ sizeLine)
    (zv : Vals [.int 0, .int 1] itz.toList)
    : Txt w K mg ⟨He.ga K "Reader", C1, C4, C5, C6, dp, dl, df, zr⟩ where
  bAbs := He.free_ok X G (c.fact 0)
  bLen := He.free_ok X G (c.fact 1)
  bTup := He.free_ok X G (c.fact 2)
  bLst := He.free_ok X G (c.fact 3)
  bInt := He.free_ok X G (c.fact 4)
  bStr := He.free_ok X G (c.fact 5)
  bSum := He.free_ok X G (c.fact 6)
  bIsi := He.free_ok X G (c.fact 7)
  bEnu := He.free_ok X G (c.fact 8)
  bZip := He.free_ok X G (c.fact 9)
  bRng := He.free_ok X G (c.fact 10)
  bVE := He.free_ok X G (c.fact 11)
  cDig := by
    obtain ⟨t, e⟩ := He.str_ok X G (c.fact 12)
    exact ⟨_, e, t, rfl⟩
  cLet := by
    obtain ⟨t, e⟩ := He.str_ok X G (c.fact 13)
    exact ⟨_, e, t, rfl⟩
  cFig := by
    obtain ⟨t, e⟩ := He.int_ok X G (c.fact 14)
    exact ⟨_, e, t, rfl⟩
  cTxt := by
    obtain ⟨t, e⟩ := He.int_ok X G (c.fact 15)
    exact ⟨_, e, t, rfl⟩
  cOpn := by
    obtain ⟨t, e⟩ := He.int_ok X G (c.fact 16)
    exact ⟨_, e, t, rfl⟩
  cNod := by
    obtain ⟨t, e⟩ := He.int_ok X G (c.fact 17)
    exact ⟨_, e, t, rfl⟩
  veI := ve
  cZro := ⟨_, PySem.W.mg_of X G zg, rfl⟩
  zro := fun H => .inr ⟨oz, itz, nz, zl, zc, zd, zn, zv⟩
  gPr := ⟨_, PySem.W.mg_of X G dpg, rfl⟩
  dPr := ⟨_, _, dpl, dpk, dps, dpp⟩
  gLv := ⟨_, PySem.W.mg_of X G dlg, rfl⟩
  dLv := ⟨_, _, dll, dlk, dls, dlp⟩
  gFm := ⟨_, PySem.W.mg_of X G dfg, rfl⟩
  dFm := ⟨_, _, dfl, dfk, dfs, dfp⟩
  g1 := ⟨_, PySem.W.mg_of X G g1, rfl⟩
  e1 := ⟨rd, sg⟩
  m1 := PySem.W.mg_of X G g1
  i1 := by
    obtain ⟨fd, F, _⟩ := mtd_of (st := inCls 1 0) (x := "BagError") (m := "__init__") (q := "BagError.__init__") rfl (c.def_ 51) (c.fact 123)
    rw [ga_of g1, ma_of i1] at F
    exact ⟨f1, fd, F, j1⟩
  e4 := errC_of X G g4 x4 rv4 sa4 xf4 i4 t4 rfl (c.def_ 48) (c.fact 111) kc4 ec4 tc4 (c.fact 108) (c.fact 109) (c.fact 110) g1
  e5 := errC_of X G g5 x5 rv5 sa5 xf5 i5 t5 rfl (c.def_ 49) (c.fact 116) kc5 ec5 tc5 (c.fact 113) (c.fact 114) (c.fact 115) g1
  e6 := errC_of X G g6 x6 rv6 sa6 xf6 i6 t6 rfl (c.def_ 50) (c.fact 121) kc6 ec6 tc6 (c.fact 118) (c.fact 119) (c.fact 120) g1
  d11 := dfn_of X G rfl (c.def_ 0) (c.fact 18) (c.fact 19)
  d12 := dfn_of X G rfl (c.def_ 1) (c.fact 20) (c.fact 21)
  d13 := dfn_of X G rfl (c.def_ 2) (c.fact 22) (c.fact 23)
  d15 := dfn_of X G rfl (c.def_ 3) (c.fact 24) (c.fact 25)
  d24 := dfn_of X G rfl (c.def_ 4) (c.fact 26) (c.fact 27)
  d25 := dfn_of X G rfl (c.def_ 5) (c.fact 28) (c.fact 29)
  d27 := dfn_of X G rfl (c.def_ 6) (c.fact 30) (c.fact 31)
  d28 := dfn_of X G rfl (c.def_ 7) (c.fact 32) (c.fact 33)
  d29 := dfn_of X G rfl (c.def_ 8) (c.fact 34) (c.fact 35)
  d30 := dfn_of X G rfl (c.def_ 9) (c.fact 36) (c.fact 37)
  d31 := dfn_of X G rfl (c.def_ 10) (c.fact 38) (c.fact 39)
  d32 := dfn_of X G rfl (c.def_ 11) (c.fact 40) (c.fact 41)
  d33 := dfn_of X G rfl (c.def_ 12) (c.fact 42) (c.fact 43)
  d34 := dfn_of X G rfl (c.def_ 13) (c.fact 44) (c.fact 45)
  d36 := dfn_of X G rfl (c.def_ 14) (c.fact 46) (c.fact 47)
  d37 := dfn_of X G rfl (c.def_ 15) (c.fact 48) (c.fact 49)
  d38 := dfn_of X G rfl (c.def_ 16) (c.fact 50) (c.fact 51)
  d39 := dfn_of X G rfl (c.def_ 17) (c.fact 52) (c.fact 53)
  d40 := dfn_of X G rfl (c.def_ 18) (c.fact 54) (c.fact 55)
  d41 := dfn_of X G rfl (c.def_ 19) (c.fact 56) (c.fact 57)
  d42 := dfn_of X G rfl (c.def_ 20) (c.fact 58) (c.fact 59)
  d43 := dfn_of X G rfl (c.def_ 21) (c.fact 60) (c.fact 61)
  d44 := dfn_of X G rfl (c.def_ 22) (c.fact 62) (c.fact 63)
  d45 := dfn_of X G rfl (c.def_ 23) (c.fact 64) (c.fact 65)
  d46 := dfn_of X G rfl (c.def_ 24) (c.fact 66) (c.fact 67)
  d47 := dfn_of X G rfl (c.def_ 25) (c.fact 68) (c.fact 69)
  d48 := dfn_of X G rfl (c.def_ 26) (c.fact 70) (c.fact 71)
  d49 := dfn_of X G rfl (c.def_ 27) (c.fact 72) (c.fact 73)
  d50 := dfn_of X G rfl (c.def_ 28) (c.fact 74) (c.fact 75)
  d51 := dfn_of X G rfl (c.def_ 29) (c.fact 76) (c.fact 77)
  d52 := dfn_of X G rfl (c.def_ 30) (c.fact 78) (c.fact 79)
  d53 := dfn_of X G rfl (c.def_ 31) (c.fact 80) (c.fact 81)
  d54 := dfn_of X G rfl (c.def_ 32) (c.fact 82) (c.fact 83)
  d55 := dfn_of X G rfl (c.def_ 33) (c.fact 84) (c.fact 85)
  d56 := dfn_of X G rfl (c.def_ 34) (c.fact 86) (c.fact 87)
  cl := He.cls_ok (c.fact 89)
  nTok := He.noat_ok (c.fact 90)
  nAt := He.noat_ok (c.fact 91)
  nOpn := He.noat_ok (c.fact 92)
  gR := He.glo_ok X G (c.fact 88)
  rIni := by
    obtain ⟨fd, F, _⟩ := mtd_of (st := inCls 26 0) (x := "Reader") (m := "__init__") (q := "Reader.__init__") rfl (c.def_ 35) (c.fact 94)
    exact ⟨_, fd, F, He.mkr_ok (c.fact 93)⟩
  r1 := by
    obtain ⟨fd, F, me⟩ := mtd_of (st := inCls 26 1) (x := "Reader") (m := "token") (q := "Reader.token") rfl (c.def_ 36) (c.fact 95)
    exact ⟨⟨_, fd, F, me⟩⟩
  r2 := by
    obtain ⟨fd, F, me⟩ := mtd_of (st := inCls 26 2) (x := "Reader") (m := "fail") (q := "Reader.fail") rfl (c.def_ 37) (c.fact 96)
    exact ⟨⟨_, fd, F, me⟩⟩
  r3 := by
    obtain ⟨fd, F, me⟩ := mtd_of (st := inCls 26 3) (x := "Reader") (m := "take") (q := "Reader.take") rfl (c.def_ 38) (c.fact 97)
    exact ⟨⟨_, fd, F, me⟩⟩
  r4 := by
    obtain ⟨fd, F, me⟩ := mtd_of (st := inCls 26 4) (x := "Reader") (m := "enter") (q := "Reader.enter") rfl (c.def_ 39) (c.fact 98)
    exact ⟨⟨_, fd, F, me⟩⟩
  r5 := by
    obtain ⟨fd, F, me⟩ := mtd_of (st := inCls 26 5) (x := "Reader") (m := "leave") (q := "Reader.leave") rfl (c.def_ 40) (c.fact 99)
    exact ⟨⟨_, fd, F, me⟩⟩
  r6 := by
    obtain ⟨fd, F, me⟩ := mtd_of (st := inCls 26 6) (x := "Reader") (m := "natural") (q := "Reader.natural") rfl (c.def_ 41) (c.fact 100)
    exact ⟨⟨_, fd, F, me⟩⟩
  r7 := by
    obtain ⟨fd, F, me⟩ := mtd_of (st := inCls 26 7) (x := "Reader") (m := "rational") (q := "Reader.rational") rfl (c.def_ 42) (c.fact 101)
    exact ⟨⟨_, fd, F, me⟩⟩
  r8 := by
    obtain ⟨fd, F, me⟩ := mtd_of (st := inCls 26 8) (x := "Reader") (m := "numbers") (q := "Reader.numbers") rfl (c.def_ 43) (c.fact 102)
    exact ⟨⟨_, fd, F, me⟩⟩
  r9 := by
    obtain ⟨fd, F, me⟩ := mtd_of (st := inCls 26 9) (x := "Reader") (m := "term") (q := "Reader.term") rfl (c.def_ 44) (c.fact 103)
    exact ⟨⟨_, fd, F, me⟩⟩
  r10 := by
    obtain ⟨fd, F, me⟩ := mtd_of (st := inCls 26 10) (x := "Reader") (m := "signed") (q := "Reader.signed") rfl (c.def_ 45) (c.fact 104)
    exact ⟨⟨_, fd, F, me⟩⟩
  r11 := by
    obtain ⟨fd, F, me⟩ := mtd_of (st := inCls 26 11) (x := "Reader") (m := "atom") (q := "Reader.atom") rfl (c.def_ 46) (c.fact 105)
    exact ⟨⟨_, fd, F, me⟩⟩
  r12 := by
    obtain ⟨fd, F, me⟩ := mtd_of (st := inCls 26 12) (x := "Reader") (m := "argument") (q := "Reader.argument") rfl (c.def_ 47) (c.fact 106)
    exact ⟨⟨_, fd, F, me⟩⟩
theorem law_at {l : PySem.W.OpenLaw} (X : K.In h) (G : h.Ns mainGlobals mg) {a : Ads} {fa fl cl PT : Addr} {oc : Value} {od an : Option Addr} {osl : Array (Option Value)} {kV doc pm ct : Value} (hfa : mg "law" = some (.ref fa)) (T : Txt w K mg a)
    (lg : PySem.W.nsIn K mainGlobals "law" = some (some (.ref fl))) (ll : K.lookup fl = some ⟨oc, od, .func (PySem.W.fnOf "law" "law" (defArgs (top 56)) (defBody (top 56)) (defScope (top 56)) .none kV doc pm an (.ref cl) ct), osl⟩) (lc : PySem.W.codeIn K (.ref cl) "law" = true)
    (hT : h.get? PT = some { cls := .none, data := .fields #[] }) (nT : K.lookup PT = none) (C : PySem.W.CodeHd h cl PT) : LamX.LawAtS l w K L2.CX0 230 63 "_law_script" mg fa h := by
  have e := hfa.symm.trans (PySem.W.mg_of X G lg)
  cases e
  refine ⟨_, [(cl, PT)], spLaw K PT, fun p hp => ?_, fun p hp => ?_, fun p hp => ?_, fun s u => .of_eq rfl, fun H b ns _ _ ht hs => ?_, fun bs _ _ tb => law_ok T ll lc (tb _ List.mem_cons_self)⟩
  · rw [List.mem_singleton.mp hp]; exact hT
  · rw [List.mem_singleton.mp hp]; exact nT
  · rw [List.mem_singleton.mp hp]; exact C
  · exact ⟨b, ns, rfl, hs, ht _ List.mem_cons_self, fun _ => rfl⟩
end
end Rb
set_option maxRecDepth 100000
set_option maxHeartbeats 4000000
open PySem PySem.W PyProof.Rows
set_option maxHeartbeats 0 in
theorem PySem.Challenge.cw_rootbags_k52_whole_texts_and_trees_holds : PySem.Challenge.rw_rootbags_k52_whole_texts_and_trees.Holds := by
  w_on; o_law; k_head; (case hw => w_witness2)
  k_fill
  refine LamX.walk_ofTs (l := PySem.Challenge.rw_rootbags_k52_whole_texts_and_trees) (n := 63) (k := 230) (CX := fun w => L2.CX0) (x := "_law_script") rfl (by decide) rfl ⟨rfl, by decide, by decide⟩ (fun w h Y => PySem.W.km_in_of Y) ?F (fun _ _ _ _ _ z => z)
  case F =>
    intro w mg fa h Y KX G hmg
    refine' Rb.law_at (PT := 459) KX G hmg (Rb.txt_mk KX G ?c ?g1 ?i1 ?j1 ?rd ?sg ?ve ?g4 ?x4 ?rv4 ?sa4 ?xf4 ?i4 ?t4 ?kc4 ?ec4 ?tc4 ?g5 ?x5 ?rv5 ?sa5 ?xf5 ?i5 ?t5 ?kc5 ?ec5 ?tc5 ?g6 ?x6 ?rv6 ?sa6 ?xf6 ?i6 ?t6 ?kc6 ?ec6 ?tc6 ?dpg ?dpl ?dpk ?dps ?dpp ?dlg ?dll ?dlk ?dls ?dlp ?dfg ?dfl ?dfk ?dfs ?dfp ?zg ?zl ?zc ?zd ?zn ?zv) ?lg ?ll ?lc ?hT ?nT ?CC
    (case c => (show He.obsE Rb.fas Rb.fns _ = He.valE Rb.fns); kernel_rfl)
    (case g1 => first | k_is | kernel_rfl | rfl)
    (case i1 => first | k_is | kernel_rfl | rfl)
    (case j1 => first | k_is | kernel_rfl | rfl)
    (case rd => first | k_is | kernel_rfl | rfl)
    (case sg => first | k_is | kernel_rfl | rfl)
    (case ve => first | k_is | kernel_rfl | rfl)
    (case g4 => first | k_is | kernel_rfl | rfl)
    (case x4 => first | k_is | kernel_rfl | rfl)
    (case rv4 => decide +kernel)
    (case sa4 => first | k_is | kernel_rfl | rfl)
    (case xf4 => first | kernel_rfl | rfl | k_is)
    (case i4 => first | k_is | kernel_rfl | rfl)
    (case t4 => first | k_is | kernel_rfl | rfl)
    (case kc4 => first | k_is | kernel_rfl | rfl)
    (case ec4 => first | k_is | kernel_rfl | rfl)
    (case tc4 => first | k_is | kernel_rfl | rfl)
    (case g5 => first | k_is | kernel_rfl | rfl)
    (case x5 => first | k_is | kernel_rfl | rfl)
    (case rv5 => decide +kernel)
    (case sa5 => first | k_is | kernel_rfl | rfl)
    (case xf5 => first | kernel_rfl | rfl | k_is)
    (case i5 => first | k_is | kernel_rfl | rfl)
    (case t5 => first | k_is | kernel_rfl | rfl)
    (case kc5 => first | k_is | kernel_rfl | rfl)
    (case ec5 => first | k_is | kernel_rfl | rfl)
    (case tc5 => first | k_is | kernel_rfl | rfl)
    (case g6 => first | k_is | kernel_rfl | rfl)
    (case x6 => first | k_is | kernel_rfl | rfl)
    (case rv6 => decide +kernel)
    (case sa6 => first | k_is | kernel_rfl | rfl)
    (case xf6 => first | kernel_rfl | rfl | k_is)
    (case i6 => first | k_is | kernel_rfl | rfl)
    (case t6 => first | k_is | kernel_rfl | rfl)
    (case kc6 => first | k_is | kernel_rfl | rfl)
    (case ec6 => first | k_is | kernel_rfl | rfl)
    (case tc6 => first | k_is | kernel_rfl | rfl)
    (case dpg => first | k_is | kernel_rfl | rfl)
    (case dpl => first | k_is | kernel_rfl | rfl)
    (case dpk => exact ⟨⟨_, _, rfl, rfl⟩, ⟨_, _, rfl, rfl⟩, ⟨_, _, rfl, rfl⟩, ⟨_, _, rfl, rfl⟩, ⟨_, _, rfl, rfl⟩, trivial⟩)
    (case dps => rfl)
    (case dpp => exact (.cons ⟨⟨_, rfl⟩, ⟨_, rfl⟩⟩ (.cons ⟨⟨_, rfl⟩, ⟨_, rfl⟩⟩ (.cons ⟨⟨_, rfl⟩, ⟨_, rfl⟩⟩ (.cons ⟨⟨_, rfl⟩, ⟨_, rfl⟩⟩ (.cons ⟨⟨_, rfl⟩, ⟨_, rfl⟩⟩ .nil))))))
    (case dlg => first | k_is | kernel_rfl | rfl)
    (case dll => first | k_is | kernel_rfl | rfl)
    (case dlk => exact ⟨⟨_, _, rfl, rfl⟩, ⟨_, _, rfl, rfl⟩, ⟨_, _, rfl, rfl⟩, ⟨_, _, rfl, rfl⟩, ⟨_, _, rfl, rfl⟩, ⟨_, _, rfl, rfl⟩, ⟨_, _, rfl, rfl⟩, trivial⟩)
    (case dls => rfl)
    (case dlp => exact (.cons ⟨⟨_, rfl⟩, ⟨_, rfl⟩⟩ (.cons ⟨⟨_, rfl⟩, ⟨_, rfl⟩⟩ (.cons ⟨⟨_, rfl⟩, ⟨_, rfl⟩⟩ (.cons ⟨⟨_, rfl⟩, ⟨_, rfl⟩⟩ (.cons ⟨⟨_, rfl⟩, ⟨_, rfl⟩⟩ (.cons ⟨⟨_, rfl⟩, ⟨_, rfl⟩⟩ (.cons ⟨⟨_, rfl⟩, ⟨_, rfl⟩⟩ .nil))))))))
    (case dfg => first | k_is | kernel_rfl | rfl)
    (case dfl => first | k_is | kernel_rfl | rfl)
    (case dfk => exact ⟨⟨_, _, rfl, rfl⟩, ⟨_, _, rfl, rfl⟩, ⟨_, _, rfl, rfl⟩, ⟨_, _, rfl, rfl⟩, ⟨_, _, rfl, rfl⟩, ⟨_, _, rfl, rfl⟩, ⟨_, _, rfl, rfl⟩, ⟨_, _, rfl, rfl⟩, trivial⟩)
    (case dfs => rfl)
    (case dfp => exact (.cons ⟨⟨_, rfl⟩, ⟨_, rfl⟩⟩ (.cons ⟨⟨_, rfl⟩, ⟨_, rfl⟩⟩ (.cons ⟨⟨_, rfl⟩, ⟨_, rfl⟩⟩ (.cons ⟨⟨_, rfl⟩, ⟨_, rfl⟩⟩ (.cons ⟨⟨_, rfl⟩, ⟨_, rfl⟩⟩ (.cons ⟨⟨_, rfl⟩, ⟨_, rfl⟩⟩ (.cons ⟨⟨_, rfl⟩, ⟨_, rfl⟩⟩ (.cons ⟨⟨_, rfl⟩, ⟨_, rfl⟩⟩ .nil)))))))))
    (case zg => first | k_is | kernel_rfl | rfl)
    (case zl => first | k_is | kernel_rfl | rfl)
    (case zc => first | rfl | kernel_rfl | k_is)
    (case zd => first | rfl | kernel_rfl | k_is)
    (case zn => first | decide | (show 2 ≤ sizeLine; decide))
    (case zv => exact .cons ⟨_, rfl⟩ (.cons ⟨_, rfl⟩ .nil))
    (case lg => k_is)
    (case ll => k_is)
    (case lc => k_is)
    (case hT => exact PySem.W.km_tabs_of Y 459 (List.mem_cons_self))
    (case nT => first | rfl | kernel_rfl | k_is)
    (case CC => exact PySem.W.codeHd_of_K KX (by kernel_rfl))
