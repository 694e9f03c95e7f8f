import PyProof.Rows.All
import Wide.All
import OpenK.AllK
import Wide.FinOn
import HandS.ForMost
import HandS.ForExc
import HandS.IsInst
import HandS.TryMany
import HandS.ExcIs
import HandS.HotCalls
import HandS.TupAny
import HandS.Text
import KE.IntTextLaws
import HandS.TryOnly
import KE.KExcSuper
import HandS.Exc
import HandS.ExcInit
import HandS.ExcField
import KE.KExcIs
import HandS.Defaults
import HandS.WordsExc
import HandS.ExcOwn
import HandS.Style
import HandS.Call
import HandS.Conv
import HandS.Replace
import HandS.ReplaceLit
import HandS.ReplaceList
import HandS.Ends
import PySem.Challenge.RW_deedoath_k94_values_written
set_option Elab.async false
set_option linter.all false
set_option maxRecDepth 100000
section
set_option maxHeartbeats 4000000
/-! Mi: a small deterministic machine for the part of Python that the program and its laws use.
Values AV (texts as code points, tuples by value, lists that nobody changes by value, cells for lists and dicts that are changed), a heap AH of cells,
results Res, and one combinator for each construct. Plain Lean; MiSim.lean shows that the model of Python does what this machine does. -/
namespace Mi

inductive AV where
  | non
  | bl (b : Bool)
  | int (i : Int)
  | str (s : List Nat)
  | tup (xs : List AV)
  | lst (xs : List AV)
  /-- a list, a tuple (t) that is only read: the script, the module's constants -/
  | scr (t : Bool) (xs : List AV)
  | cel (n : Nat)
  /-- the exception that a suite holds: its class, its fields -/
  | xcp (c : String) (ns : List String) (xs : List AV)
  deriving Inhabited

inductive HC where
  | lst (xs : List AV)
  /-- a dict; t: its keys are tuples of ints and texts, else ints and texts -/
  | dic (t : Bool) (kvs : List (AV × AV))
  deriving Inhabited

abbrev AH := List HC

structure AX where
  cls : String
  ns : List String
  xs : List AV
  deriving Inhabited

inductive Res (α : Type) where
  | ok (a : α) (h : AH)
  | ex (e : AX) (h : AH)
  | no

abbrev AS := List (Option AV)

inductive RS where
  | nx (σ : AS) (h : AH)
  | rt (v : AV) (h : AH)
  | bk (σ : AS) (h : AH)
  | ct (σ : AS) (h : AH)
  | ex (e : AX) (σ : AS) (h : AH)
  | no

abbrev M (α : Type) := AH → Res α
abbrev E := AS → AH → Res AV
abbrev A := AS → AH → Res (List AV)
abbrev T := AS → AH → Res Bool
abbrev O := AS → AH → Res (Option Int)
abbrev S := AS → AH → RS
/-- a target: the slots and the heap behind the assignment -/
abbrev G := AV → AS → AH → Option (AS × AH)

abbrev LINE : Nat := 16777216
/-- small enough for range; the kernel must not count down from the bound -/
def inBig (j : Int) : Bool := decide (j.natAbs.log2 < 62)

def Res.bind {α β : Type} (r : Res α) (f : α → AH → Res β) : Res β :=
  match r with
  | .ok a h => f a h
  | .ex e h => .ex e h
  | .no => .no
@[simp] theorem Res.bind_ok {α β : Type} (a : α) (h : AH) (f : α → AH → Res β) : (Res.ok a h).bind f = f a h := rfl
@[simp] theorem Res.bind_ex {α β : Type} (e : AX) (h : AH) (f : α → AH → Res β) : (Res.ex e h : Res α).bind f = .ex e h := rfl
@[simp] theorem Res.bind_no {α β : Type} (f : α → AH → Res β) : (Res.no : Res α).bind f = .no := rfl

/-- an expression's result in a statement at σ -/
def Res.st {α : Type} (r : Res α) (σ : AS) (f : α → AH → RS) : RS :=
  match r with
  | .ok a h => f a h
  | .ex e h => .ex e σ h
  | .no => .no
@[simp] theorem Res.st_ok {α : Type} (a : α) (h : AH) (σ : AS) (f : α → AH → RS) : (Res.ok a h).st σ f = f a h := rfl
@[simp] theorem Res.st_ex {α : Type} (e : AX) (h : AH) (σ : AS) (f : α → AH → RS) : (Res.ex e h : Res α).st σ f = .ex e σ h := rfl
@[simp] theorem Res.st_no {α : Type} (σ : AS) (f : α → AH → RS) : (Res.no : Res α).st σ f = .no := rfl

/-! ### data -/
def b2i (b : Bool) : Int := if b then 1 else 0
mutual
def AV.eqv : AV → AV → Bool
  | .non, .non => true
  | .bl a, .bl b => a == b
  | .bl a, .int j => b2i a == j
  | .int i, .bl b => i == b2i b
  | .int i, .int j => i == j
  | .str x, .str y => x == y
  | .tup xs, .tup ys => AV.eqvs xs ys
  | .lst xs, .lst ys => AV.eqvs xs ys
  | _, _ => false
def AV.eqvs : List AV → List AV → Bool
  | [], [] => true
  | x :: xs, y :: ys => AV.eqv x y && AV.eqvs xs ys
  | _, _ => false
end
mutual
/-- data without cells, at most d deep -/
def AV.fits : Nat → AV → Bool
  | _, .non => true
  | _, .bl _ => true
  | _, .int _ => true
  | _, .str s => s.all (· < 1114112)
  | 0, .tup _ => false
  | 0, .lst _ => false
  | d + 1, .tup xs => AV.fitss d xs
  | d + 1, .lst xs => AV.fitss d xs
  | _, .scr _ _ => false
  | _, .cel _ => false
  | _, .xcp _ _ _ => false
def AV.fitss : Nat → List AV → Bool
  | _, [] => true
  | d, x :: xs => AV.fits d x && AV.fitss d xs
end
def AV.flat : AV → Bool
  | .non => true
  | .bl _ => true
  | .int _ => true
  | .str _ => true
  | _ => false

/-- the list in a cell or by value -/
def lstOf (h : AH) : AV → Option (List AV)
  | .lst xs => some xs
  | .cel n => match h[n]? with
    | some (.lst xs) => some xs
    | _ => none
  | _ => none
def seqOf (h : AH) : AV → Option (List AV)
  | .tup xs => some xs
  | .scr _ xs => some xs
  | v => lstOf h v
/-- a cell's list by value -/
def flatten (h : AH) : AV → AV
  | .cel n => match h[n]? with
    | some (.lst xs) => .lst xs
    | _ => .cel n
  | v => v

def atN (n : Nat) (i : Int) : Option Nat := if 0 ≤ i then (if i < n then some i.toNat else none) else if -(n : Int) ≤ i then some (i + n).toNat else none
def atI {α : Type} (xs : List α) (i : Int) : Option α := (atN xs.length i).bind fun j => xs[j]?
def sIx (n d : Nat) : Option Int → Nat
  | none => d
  | some v => if v < 0 then (v + (n : Int)).toNat else min v.toNat n
def cut {α : Type} (xs : List α) (lo hi : Option Int) : List α := (xs.drop (sIx xs.length 0 lo)).take (sIx xs.length xs.length hi - sIx xs.length 0 lo)

def pre (S l : List Nat) : Bool := l.take S.length == S
def spl (S : List Nat) : Nat → List Nat → List Nat → List (List Nat)
  | _, acc, [] => [acc]
  | 0, acc, c :: r => if pre S (c :: r) = true then acc :: spl S (S.length - 1) [] r else spl S 0 (acc ++ [c]) r
  | k + 1, acc, _ :: r => spl S k acc r
def joinL (S : List Nat) : List (List Nat) → List Nat
  | [] => []
  | [x] => x
  | x :: y :: r => x ++ S ++ joinL S (y :: r)
def strsOf : List AV → Option (List (List Nat))
  | [] => some []
  | .str s :: r => (strsOf r).map (s :: ·)
  | _ :: _ => none
def lenSum (S : List Nat) : List (List Nat) → Nat
  | [] => 0
  | x :: r => x.length + S.length + lenSum S r
def numL (n : Nat) : List Nat := (Nat.toDigits 10 n).map Char.toNat
def intL (i : Int) : List Nat := if i < 0 then 45 :: numL i.natAbs else numL i.natAbs

/-! ### operations by values -/
def oAdd (x y : AV) : M AV := fun h => match x, y with
  | .int i, .int j => .ok (.int (i + j)) h
  | .str s, .str t => if s.length + t.length ≤ LINE then .ok (.str (s ++ t)) h else .no
  | .tup xs, .tup ys => if xs.length + ys.length ≤ LINE then .ok (.tup (xs ++ ys)) h else .no
  | x, y => match lstOf h x, lstOf h y with
    | some xs, some ys => if xs.length + ys.length ≤ LINE then .ok (.lst (xs ++ ys)) h else .no
    | _, _ => .no
def oSub (x y : AV) : M AV := fun h => match x, y with
  | .int i, .int j => .ok (.int (i - j)) h
  | _, _ => .no
/-- x += y of ints and texts -/
def oIadd (x y : AV) : M AV := fun h => match x, y with
  | .int i, .int j => .ok (.int (i + j)) h
  | .str s, .str t => if s.length + t.length ≤ LINE then .ok (.str (s ++ t)) h else .no
  | _, _ => .no
/-- one factor below 2 ^ 64 -/
def oMul (x y : AV) : M AV := fun h => match x, y with
  | .int i, .int j => if (-18446744073709551616 < i ∧ i < 18446744073709551616) ∨ (-18446744073709551616 < j ∧ j < 18446744073709551616) then .ok (.int (i * j)) h else .no
  | .str [c], .int j => if 2 ≤ j ∧ j ≤ 1000 then .ok (.str (List.replicate j.toNat c)) h else .no
  | _, _ => .no
def oFdiv (x y : AV) : M AV := fun h => match x, y with
  | .int i, .int j => if 0 < j ∧ j < 1073741824 then .ok (.int (i / j)) h else .no
  | _, _ => .no
def oMod (x y : AV) : M AV := fun h => match x, y with
  | .int i, .int j => if 0 < j then .ok (.int (i % j)) h else .no
  | _, _ => .no
def oPow (x y : AV) : M AV := fun h => match x, y with
  | .int i, .int j => if 0 ≤ j ∧ j ≤ 1000000 ∧ i.natAbs < 18446744073709551616 then .ok (.int (i ^ j.toNat)) h else .no
  | _, _ => .no
def oShl (x y : AV) : M AV := fun h => match x, y with
  | .int i, .int j => if 0 ≤ j ∧ j ≤ 1000000 ∧ i.natAbs < 18446744073709551616 then .ok (.int (i * 2 ^ j.toNat)) h else .no
  | _, _ => .no
def oNeg (x : AV) : M AV := fun h => match x with
  | .int i => .ok (.int (-i)) h
  | _ => .no
/-- == of data; both at most 60 deep -/
def oEq (x y : AV) : M AV := fun h => match x, y with
  | .str s, .str t => .ok (.bl (s == t)) h
  | x, y => if (flatten h x).fits 60 && (flatten h y).fits 60 then .ok (.bl ((flatten h x).eqv (flatten h y))) h else .no
def oNe (x y : AV) : M AV := fun h => match x, y with
  | .str s, .str t => .ok (.bl (!(s == t))) h
  | x, y => if (flatten h x).fits 60 && (flatten h y).fits 60 then .ok (.bl (!(flatten h x).eqv (flatten h y))) h else .no
def oLt (x y : AV) : M AV := fun h => match x, y with
  | .int i, .int j => .ok (.bl (decide (i < j))) h
  | _, _ => .no
def oLe (x y : AV) : M AV := fun h => match x, y with
  | .int i, .int j => .ok (.bl (decide (i ≤ j))) h
  | _, _ => .no
def oGt (x y : AV) : M AV := fun h => match x, y with
  | .int i, .int j => .ok (.bl (decide (j < i))) h
  | _, _ => .no
def oGe (x y : AV) : M AV := fun h => match x, y with
  | .int i, .int j => .ok (.bl (decide (j ≤ i))) h
  | _, _ => .no
def AV.isN : AV → Bool
  | .non => true
  | _ => false
/-- is None -/
def oIsN (x : AV) : M AV := fun h => .ok (.bl x.isN) h
def oNotN (x : AV) : M AV := fun h => .ok (.bl (!x.isN)) h
/-- a key: an int or a text; a tuple of such -/
def AV.key1 : AV → Bool
  | .int _ => true
  | .str _ => true
  | _ => false
def AV.keyT : AV → Bool
  | .tup xs => xs.all AV.key1
  | _ => false
def look (kvs : List (AV × AV)) (k : AV) : Option AV := (kvs.find? fun kv => kv.1.eqv k).map (·.2)
def put (kvs : List (AV × AV)) (k v : AV) : List (AV × AV) :=
  if (kvs.any fun kv => kv.1.eqv k) then kvs.map fun kv => if kv.1.eqv k then (kv.1, v) else kv else kvs ++ [(k, v)]
/-- the key is of the dict's kind -/
def keyFor (t : Bool) (k : AV) : Bool := if t then k.keyT else k.key1
def oIn (x y : AV) : M AV := fun h => match x, y with
  | .str [c], .str t => .ok (.bl (decide (c ∈ t))) h
  | x, .tup ys => if x.flat && ys.all AV.flat then .ok (.bl (ys.any fun y => y.eqv x)) h else .no
  | x, .lst ys => if x.flat && ys.all AV.flat then .ok (.bl (ys.any fun y => y.eqv x)) h else .no
  | x, .scr _ ys => if x.flat && ys.all AV.flat then .ok (.bl (ys.any fun y => y.eqv x)) h else .no
  | x, .cel n => match h[n]? with
    | some (.lst ys) => if x.flat && ys.all AV.flat then .ok (.bl (ys.any fun y => y.eqv x)) h else .no
    | some (.dic t kvs) => if keyFor t x then .ok (.bl (look kvs x).isSome) h else .no
    | none => .no
  | _, _ => .no
def oNotIn (x y : AV) : M AV := fun h => (oIn x y h).bind fun v h1 => match v with
  | .bl b => .ok (.bl (!b)) h1
  | _ => .no
/-- x[i] -/
def oIx (x y : AV) : M AV := fun h => match x, y with
  | .str s, .int i => if s.length ≤ LINE then (match atI s i with | some c => .ok (.str [c]) h | none => .no) else .no
  | .tup xs, .int i => match atI xs i with | some v => .ok v h | none => .no
  | .lst xs, .int i => match atI xs i with | some v => .ok v h | none => .no
  | .scr _ xs, .int i => match atI xs i with | some v => .ok v h | none => .no
  | .cel n, y => match h[n]? with
    | some (.lst xs) => (match y with | .int i => (match atI xs i with | some v => .ok v h | none => .no) | _ => .no)
    | some (.dic t kvs) => if keyFor t y then (match look kvs y with | some v => .ok v h | none => .no) else .no
    | none => .no
  | _, _ => .no
/-- x[lo:hi]; a list's slice by value -/
def oSl (x : AV) (lo hi : Option Int) : M AV := fun h => match x with
  | .str s => if s.length ≤ LINE then .ok (.str (cut s lo hi)) h else .no
  | .tup xs => .ok (.tup (cut xs lo hi)) h
  | .scr false xs => .ok (.lst (cut xs lo hi)) h
  | v => match lstOf h v with
    | some xs => .ok (.lst (cut xs lo hi)) h
    | none => .no

/-! ### built-ins by values -/
def cLen : List AV → M AV
  | [x] => fun h => match x with
    | .str s => if s.length ≤ LINE then .ok (.int s.length) h else .no
    | .cel n => (match h[n]? with
      | some (.lst xs) => .ok (.int xs.length) h
      | some (.dic false kvs) => .ok (.int kvs.length) h
      | _ => .no)
    | .tup xs => .ok (.int xs.length) h
    | .lst xs => .ok (.int xs.length) h
    | .scr _ xs => .ok (.int xs.length) h
    | _ => .no
  | _ => fun _ => .no
def cAbs : List AV → M AV
  | [.int i] => fun h => .ok (.int (if i < 0 then -i else i)) h
  | _ => fun _ => .no
def cMax2 : List AV → M AV
  | [.int i, .int j] => fun h => .ok (.int (if j > i then j else i)) h
  | _ => fun _ => .no
def cMin2 : List AV → M AV
  | [.int i, .int j] => fun h => .ok (.int (if j < i then j else i)) h
  | _ => fun _ => .no
/-- int(text): figures, perhaps a - ahead -/
def digs (l : List Nat) : Bool := !l.isEmpty && l.all fun c => decide (48 ≤ c) && decide (c ≤ 57)
def numOf (l : List Nat) : Nat := l.foldl (fun n c => n * 10 + (c - 48)) 0
def intOf : List Nat → Option Int
  | 45 :: r => if digs r = true then some (-((numOf r : Nat) : Int)) else none
  | l => if digs l = true then some ((numOf l : Nat) : Int) else none
/-- int(n), int(flag), int(text) -/
def cInt : List AV → M AV
  | [.int i] => fun h => .ok (.int i) h
  | [.bl b] => fun h => .ok (.int (b2i b)) h
  | [.str s] => fun h => if s.length ≤ 640 then (match intOf s with | some i => .ok (.int i) h | none => .no) else .no
  | _ => fun _ => .no
def cStr : List AV → M AV
  | [.int i] => fun h => if i.natAbs.log2 < 1920 then .ok (.str (intL i)) h else .no
  | _ => fun _ => .no
/-- list(xs), by value -/
def cList : List AV → M AV
  | [x] => fun h => match seqOf h x with
    | some xs => .ok (.lst xs) h
    | none => .no
  | _ => fun _ => .no
/-- list(xs), in a cell -/
def cListC : List AV → M AV
  | [x] => fun h => match seqOf h x with
    | some xs => .ok (.cel h.length) (h ++ [.lst xs])
    | none => .no
  | _ => fun _ => .no
def cTuple : List AV → M AV
  | [x] => fun h => match x with
    | .tup xs => .ok (.tup xs) h
    | .scr false xs => .ok (.tup xs) h
    | x => match lstOf h x with
      | some xs => .ok (.tup xs) h
      | none => .no
  | _ => fun _ => .no
/-- list(range(n)) and the like are loops' own; a list in a fresh cell -/
def fresh (v : AV) : M AV := fun h => match lstOf h v with
  | some xs => .ok (.cel h.length) (h ++ [.lst xs])
  | none => .no
def isTy (t : String) : AV → AH → Option Bool
  | .non, _ => some false
  | .bl _, _ => some (t == "bool" || t == "int")
  | .int _, _ => some (t == "int")
  | .str _, _ => some (t == "str")
  | .tup _, _ => some (t == "tuple")
  | .lst _, _ => some (t == "list")
  | .scr _ _, _ => none
  | .xcp _ _ _, _ => none
  | .cel n, h => match h[n]? with
    | some (.lst _) => some (t == "list")
    | some (.dic _ _) => some (t == "dict")
    | none => none
def oIsTy (t : String) (x : AV) : M AV := fun h => match isTy t x h with
  | some b => .ok (.bl b) h
  | none => .no
/-- methods -/
def mJoin (x y : AV) : M AV := fun h => match x, seqOf h y with
  | .str s, some ys => match strsOf ys with
    | some l => if lenSum s l ≤ LINE then .ok (.str (joinL s l)) h else .no
    | none => .no
  | _, _ => .no
def mSplit (x y : AV) : M AV := fun h => match x, y with
  | .str s, .str t => if t ≠ [] ∧ s.length + 2 ≤ LINE ∧ t.all (· < 256) then .ok (.lst ((spl t 0 [] s).map .str)) h else .no
  | _, _ => .no
def mAppend (x y : AV) : M AV := fun h => match x with
  | .cel n => (match h[n]? with
    | some (.lst xs) => if xs.length < LINE then .ok .non (h.set n (.lst (xs ++ [y]))) else .no
    | _ => .no)
  | _ => .no
def mExtend (x y : AV) : M AV := fun h => match x, lstOf h y with
  | .cel n, some ys => (match h[n]? with
    | some (.lst xs) => if xs.length + ys.length ≤ LINE then .ok .non (h.set n (.lst (xs ++ ys))) else .no
    | _ => .no)
  | _, _ => .no
def mPop (x : AV) : M AV := fun h => match x with
  | .cel n => (match h[n]? with
    | some (.lst xs) => (match xs[xs.length - 1]? with
      | some v => .ok v (h.set n (.lst xs.dropLast))
      | none => .no)
    | _ => .no)
  | _ => .no
def mPopAt (x y : AV) : M AV := fun h => match x, y with
  | .cel n, .int i => (match h[n]? with
    | some (.lst xs) => (match atN xs.length i with
      | some k => (match xs[k]? with
        | some v => .ok v (h.set n (.lst (xs.eraseIdx k)))
        | none => .no)
      | none => .no)
    | _ => .no)
  | _, _ => .no
/-- x.replace(y, z), y one sign -/
def repC (y : Nat) (z s : List Nat) : List Nat := s.flatMap fun c => if c = y then z else [c]
def mRepl (y : Nat) (z : List Nat) (x : AV) : M AV := fun h => match x with
  | .str s => if s.length + (s.length + 1) * z.length ≤ LINE then .ok (.str (repC y z s)) h else .no
  | _ => .no
/-- ord(c) -/
def cOrd : List AV → M AV
  | [.str [c]] => fun h => .ok (.int c) h
  | _ => fun _ => .no
/-- is True, is False -/
def oIsB (x y : AV) : M AV := fun h => match x, y with
  | .bl a, .bl b => .ok (.bl (a == b)) h
  | _, _ => .no
def oNotB (x y : AV) : M AV := fun h => match x, y with
  | .bl a, .bl b => .ok (.bl (!(a == b))) h
  | _, _ => .no
/-- o[i] = v -/
def sPut (o i v : AV) : AH → Option AH := fun h => match o with
  | .cel n => (match h[n]? with
    | some (.lst xs) => (match i with
      | .int k => (match atN xs.length k with
        | some j => some (h.set n (.lst (xs.set j v)))
        | none => none)
      | _ => none)
    | some (.dic t kvs) => if keyFor t i = true ∧ kvs.length < LINE then some (h.set n (.dic t (put kvs i v))) else none
    | none => none)
  | _ => none

/-! ### expressions -/
def eVar (i : Nat) : E := fun σ h => match σ[i]? with
  | some (some v) => .ok v h
  | _ => .no
def eC (v : AV) : E := fun _ h => .ok v h
def eOp1 (f : AV → M AV) (a : E) : E := fun σ h => (a σ h).bind fun x h1 => f x h1
def eOp2 (f : AV → AV → M AV) (a b : E) : E := fun σ h => (a σ h).bind fun x h1 => (b σ h1).bind fun y h2 => f x y h2
def aNil : A := fun _ h => .ok [] h
def aCons (a : E) (r : A) : A := fun σ h => (a σ h).bind fun x h1 => (r σ h1).bind fun xs h2 => .ok (x :: xs) h2
def eCall (f : List AV → M AV) (a : A) : E := fun σ h => (a σ h).bind fun xs h1 => f xs h1
/-- the receiver's type -/
def tyA (T : String) (h : AH) : AV → Bool
  | .str _ => T == "str"
  | .lst _ => T == "list"
  | .cel n => match h[n]? with
    | some (.lst _) => T == "list"
    | some (.dic _ _) => T == "dict"
    | none => false
  | _ => false
/-- o.m(e), m a method of the built-in type T -/
def eM1 (T : String) (f : AV → AV → M AV) (o a : E) : E := fun σ h => (o σ h).bind fun x h1 => if tyA T h1 x = true then (a σ h1).bind fun y h2 => f x y h2 else .no
def eTup (a : A) : E := fun σ h => (a σ h).bind fun xs h1 => if xs.length ≤ LINE then .ok (.tup xs) h1 else .no
/-- a list display: by value; in a cell -/
def eLst (a : A) : E := fun σ h => (a σ h).bind fun xs h1 => if xs.length ≤ LINE then .ok (.lst xs) h1 else .no
def eLstC (a : A) : E := fun σ h => (a σ h).bind fun xs h1 => if xs.length ≤ LINE then .ok (.cel h1.length) (h1 ++ [.lst xs]) else .no
def eDic0 (t : Bool) : E := fun _ h => .ok (.cel h.length) (h ++ [.dic t []])
def oNo : O := fun _ h => .ok none h
def oAt (a : E) : O := fun σ h => (a σ h).bind fun x h1 => match x with
  | .int i => .ok (some i) h1
  | _ => .no
def eSl (a : E) (lo hi : O) : E := fun σ h => (a σ h).bind fun x h1 => (lo σ h1).bind fun l h2 => (hi σ h2).bind fun u h3 => oSl x l u h3
/-- tests -/
def tB (a : E) : T := fun σ h => (a σ h).bind fun x h1 => match x with
  | .bl b => .ok b h1
  | _ => .no
def tAnd (t u : T) : T := fun σ h => (t σ h).bind fun c h1 => if c = true then u σ h1 else .ok false h1
def tOr (t u : T) : T := fun σ h => (t σ h).bind fun c h1 => if c = true then .ok true h1 else u σ h1
def tNot (t : T) : T := fun σ h => (t σ h).bind fun c h1 => .ok (!c) h1
def eAnd (a b : E) : E := fun σ h => (a σ h).bind fun x h1 => match x with
  | .bl true => b σ h1
  | .bl false => .ok (.bl false) h1
  | _ => .no
def eOr (a b : E) : E := fun σ h => (a σ h).bind fun x h1 => match x with
  | .bl true => .ok (.bl true) h1
  | .bl false => b σ h1
  | _ => .no
def eNot (a : E) : E := fun σ h => (a σ h).bind fun x h1 => match x with
  | .bl b => .ok (.bl (!b)) h1
  | _ => .no
def eIf (t : T) (a b : E) : E := fun σ h => (t σ h).bind fun c h1 => if c = true then a σ h1 else b σ h1
def eChain (f g : AV → AV → M AV) (a b c : E) : E := fun σ h => (a σ h).bind fun x h1 => (b σ h1).bind fun y h2 => (f x y h2).bind fun z h3 => match z with
  | .bl true => (c σ h3).bind fun w h4 => g y w h4
  | .bl false => .ok (.bl false) h3
  | _ => .no

/-- xs[::-1] of a list, by value -/
def oRev (x : AV) : M AV := fun h => match seqL h x with
  | some xs => .ok (.lst xs.reverse) h
  | none => .no
where
  seqL (h : AH) : AV → Option (List AV)
    | .scr false xs => some xs
    | v => lstOf h v
/-- list(range(a)), list(range(a, b)): by value; in a cell -/
def rgL (a b : Int) : List AV := (List.range (b - a).toNat).map fun (i : Nat) => AV.int (a + (i : Int))
def rgOk (a b : Int) : Bool := inBig a && inBig b && decide ((b - a).toNat ≤ LINE)
def eLrg (cell : Bool) (a b : E) : E := fun σ h => (a σ h).bind fun x h1 => (b σ h1).bind fun y h2 => match x, y with
  | .int i, .int j => if rgOk i j = true then (if cell = true then .ok (.cel h2.length) (h2 ++ [.lst (rgL i j)]) else .ok (.lst (rgL i j)) h2) else .no
  | _, _ => .no
/-- {k: v, ..}: keys ints and texts -/
def pairs : List (E × E) → AS → AH → Res (List (AV × AV))
  | [], _, h => .ok [] h
  | (k, v) :: r, σ, h => (k σ h).bind fun x h1 => (v σ h1).bind fun y h2 => (pairs r σ h2).bind fun ps h3 => .ok ((x, y) :: ps) h3
def putAll (kvs : List (AV × AV)) (ps : List (AV × AV)) : List (AV × AV) := ps.foldl (fun acc p => put acc p.1 p.2) kvs
def eDsp (es : List (E × E)) : E := fun σ h => (pairs es σ (h ++ [.dic false []])).bind fun ps h1 => match h1[h.length]? with
  | some (.dic false []) => if (ps.all fun p => p.1.key1) = true ∧ ps.length ≤ 15 then .ok (.cel h.length) (h1.set h.length (.dic false (putAll [] ps))) else .no
  | _ => .no

/-! ### what is walked -/
inductive It where
  | seq (xs : List AV)
  /-- the list of a cell, as it stands at each turn -/
  | live (n : Nat)
abbrev I := AS → AH → Res It
def iSeq (a : E) : I := fun σ h => (a σ h).bind fun v h1 => match v with
  | .tup xs => .ok (.seq xs) h1
  | .lst xs => .ok (.seq xs) h1
  | .scr _ xs => .ok (.seq xs) h1
  | .str s => .ok (.seq (s.map fun c => .str [c])) h1
  | .cel n => (match h1[n]? with
    | some (.lst _) => .ok (.live n) h1
    | _ => .no)
  | _ => .no
def rng (lo : Int) (n : Nat) : List AV := (List.range n).map fun (i : Nat) => AV.int (lo + (i : Int))
def iRng1 (a : E) : I := fun σ h => (a σ h).bind fun v h1 => match v with
  | .int j => if inBig j = true then .ok (.seq (rng 0 j.toNat)) h1 else .no
  | _ => .no
def iRng2 (a b : E) : I := fun σ h => (a σ h).bind fun x h1 => (b σ h1).bind fun y h2 => match x, y with
  | .int i, .int j => if inBig i = true then (if inBig j = true then .ok (.seq (rng i (j - i).toNat)) h2 else .no) else .no
  | _, _ => .no

/-! ### targets -/
def gNm (i : Nat) : G := fun v σ h => some (σ.set i (some v), h)
def gAll : List G → List AV → AS → AH → Option (AS × AH)
  | [], [], σ, h => some (σ, h)
  | g :: gs, v :: vs, σ, h => match g v σ h with
    | some (σ1, h1) => gAll gs vs σ1 h1
    | none => none
  | _, _, _, _ => none
/-- a, b, .. of a tuple -/
def gTp (gs : List G) : G := fun v σ h => match v with
  | .tup xs => gAll gs xs σ h
  | v => match lstOf h v with
    | some xs => gAll gs xs σ h
    | none => none

/-! ### comprehensions -/
def wipe (σ : AS) : List Nat → AS
  | [] => σ
  | v :: vs => (wipe σ vs).set v none
/-- the items of a comprehension's list -/
def lcL (g : G) (t : T) (e : E) (σ : AS) : List AV → List AV → AH → Res (List AV)
  | [], acc, h => .ok acc h
  | x :: xs, acc, h => match g x σ h with
    | some (σ1, h1) => (t σ1 h1).bind fun b h2 => if b = true then (if acc.length < LINE then (e σ1 h2).bind fun y h3 => lcL g t e σ xs (acc ++ [y]) h3 else .no) else lcL g t e σ xs acc h2
    | none => .no
def lcC (n : Nat) (g : G) (t : T) (e : E) (σ : AS) : Nat → Nat → List AV → AH → Res (List AV)
  | 0, i, acc, h => match h[n]? with
    | some (.lst xs) => if xs.length ≤ i then .ok acc h else .no
    | _ => .no
  | f + 1, i, acc, h => match h[n]? with
    | some (.lst xs) => (match xs[i]? with
      | none => .ok acc h
      | some x => match g x σ h with
        | some (σ1, h1) => (t σ1 h1).bind fun b h2 => if b = true then (if acc.length < LINE then (e σ1 h2).bind fun y h3 => lcC n g t e σ f (i + 1) (acc ++ [y]) h3 else .no) else lcC n g t e σ f (i + 1) acc h2
        | none => .no)
    | _ => .no
def noEx {α : Type} : Res α → Res α
  | .ex _ _ => .no
  | r => r
def lcOf (it : I) (g : G) (t : T) (e : E) (vs : List Nat) : A := fun σ h => (it σ h).bind fun i h1 => match i with
  | .seq xs => noEx (lcL g t e (wipe σ vs) xs [] h1)
  | .live n => noEx (lcC n g t e (wipe σ vs) (match h1[n]? with | some (.lst xs) => xs.length | _ => 0) 0 [] h1)
/-- [e for ..]: by value; in a cell -/
def eLc (it : I) (g : G) (t : T) (e : E) (vs : List Nat) : E := fun σ h => (lcOf it g t e vs σ h).bind fun xs h1 => .ok (.lst xs) h1
def eLcC (it : I) (g : G) (t : T) (e : E) (vs : List Nat) : E := fun σ h => (lcOf it g t e vs σ h).bind fun xs h1 => .ok (.cel h1.length) (h1 ++ [.lst xs])
def tYes : T := fun _ h => .ok true h

/-! ### statements -/
def sNx : S := fun σ h => .nx σ h
def sBk : S := fun σ h => .bk σ h
def sCt : S := fun σ h => .ct σ h
def sSeq (s t : S) : S := fun σ h => match s σ h with
  | .nx σ1 h1 => t σ1 h1
  | r => r
def oNx : Option (AS × AH) → RS
  | some (σ, h) => .nx σ h
  | none => .no
def sAsg (e : E) (g : G) : S := fun σ h => (e σ h).st σ fun v h1 => oNx (g v σ h1)
/-- a, b = x, y -/
def sPar (i j : Nat) (a b : E) : S := fun σ h => ((a σ h).bind fun v h1 => (b σ h1).bind fun w h2 => .ok (v, w) h2).st σ fun p h2 => .nx ((σ.set i (some p.1)).set j (some p.2)) h2
/-- x op= e -/
def sAug (i : Nat) (f : AV → AV → M AV) (e : E) : S := fun σ h => match σ[i]? with
  | some (some x) => ((e σ h).bind fun y h1 => f x y h1).st σ fun v h1 => .nx (σ.set i (some v)) h1
  | _ => .no
def oSt (σ : AS) : Option AH → RS
  | some h => .nx σ h
  | none => .no
/-- o[i] = v (v first) -/
def sSet (v o i : E) : S := fun σ h => ((v σ h).bind fun x h1 => (o σ h1).bind fun p h2 => (i σ h2).bind fun k h3 => .ok (x, p, k) h3).st σ fun t h1 => oSt σ (sPut t.2.1 t.2.2 t.1 h1)
/-- o[i] op= e -/
def sAugS (f : AV → AV → M AV) (o i e : E) : S := fun σ h => ((o σ h).bind fun p h1 => (i σ h1).bind fun k h2 => (oIx p k h2).bind fun x h3 => (e σ h3).bind fun y h4 => (f x y h4).bind fun z h5 => .ok (z, p, k) h5).st σ fun t h1 => oSt σ (sPut t.2.1 t.2.2 t.1 h1)
def sIf (c : T) (s t : S) : S := fun σ h => (c σ h).st σ fun b h1 => if b = true then s σ h1 else t σ h1
def sRet (e : E) : S := fun σ h => (e σ h).st σ fun v h1 => .rt v h1
def sRetN : S := fun _ h => .rt .non h
def sDrop (e : E) : S := fun σ h => (e σ h).st σ fun _ h1 => .nx σ h1
/-- raise C(e, ..): the fields that its __init__ stores, by the values -/
def sRaise (c : String) (fs : List String) (a : A) : S := fun σ h => (a σ h).st σ fun vs h1 => if vs.length = fs.length then .ex ⟨c, fs.reverse, vs.reverse⟩ σ h1 else .no
def forL (g : G) (b : S) : List AV → S
  | [], σ, h => .nx σ h
  | x :: xs, σ, h => match g x σ h with
    | some (σ1, h1) => (match b σ1 h1 with
      | .nx σ2 h2 => forL g b xs σ2 h2
      | .ct σ2 h2 => forL g b xs σ2 h2
      | .bk σ2 h2 => .nx σ2 h2
      | r => r)
    | none => .no
def forC (n : Nat) (g : G) (b : S) : Nat → Nat → S
  | 0, i, σ, h => match h[n]? with
    | some (.lst xs) => if xs.length ≤ i then .nx σ h else .no
    | _ => .no
  | f + 1, i, σ, h => match h[n]? with
    | some (.lst xs) => (match xs[i]? with
      | none => .nx σ h
      | some x => match g x σ h with
        | some (σ1, h1) => (match b σ1 h1 with
          | .nx σ2 h2 => forC n g b f (i + 1) σ2 h2
          | .ct σ2 h2 => forC n g b f (i + 1) σ2 h2
          | .bk σ2 h2 => .nx σ2 h2
          | r => r)
        | none => .no)
    | _ => .no
def sFor (it : I) (g : G) (b : S) : S := fun σ h => (it σ h).st σ fun i h1 => match i with
  | .seq xs => forL g b xs σ h1
  | .live n => forC n g b (match h1[n]? with | some (.lst xs) => xs.length | _ => 0) 0 σ h1
def whileF (c : T) (b : S) : Nat → S
  | 0, _, _ => .no
  | f + 1, σ, h => (c σ h).st σ fun k h1 => if k = true then (match b σ h1 with
      | .nx σ2 h2 => whileF c b f σ2 h2
      | .ct σ2 h2 => whileF c b f σ2 h2
      | .bk σ2 h2 => .nx σ2 h2
      | r => r) else .nx σ h1
def sWhile (fuel : Nat) (c : T) (b : S) : S := whileF c b fuel
/-- a suite's end: the name (slot) is gone; no exception leaves it -/
def suEnd (o : Option Nat) : RS → RS
  | .nx σ h => .nx (match o with | some i => σ.set i none | none => σ) h
  | .bk σ h => .bk (match o with | some i => σ.set i none | none => σ) h
  | .ct σ h => .ct (match o with | some i => σ.set i none | none => σ) h
  | .rt v h => .rt v h
  | .ex _ _ _ => .no
  | .no => .no
/-- except clauses: the class, the name's slot, the suite -/
abbrev Hd := String × Option Nat × S
/-- sub c d: an exception of the class c is caught by d (none: not told) -/
def handle (sub : String → String → Option Bool) (e : AX) (σ : AS) (h : AH) : List Hd → RS
  | [] => .ex e σ h
  | (c, o, s) :: r => match sub e.cls c with
    | some true => suEnd o (s (match o with | some i => σ.set i (some (.xcp e.cls e.ns e.xs)) | none => σ) h)
    | some false => handle sub e σ h r
    | none => .no
def sTry (sub : String → String → Option Bool) (b : S) (hs : List Hd) : S := fun σ h => match b σ h with
  | .ex e σ1 h1 => handle sub e σ1 h1 hs
  | r => r
/-- e.f of the exception that the suite holds (slot i); isinstance of it -/
def eXf (f : String) (i : Nat) : E := fun σ h => match σ[i]? with
  | some (some (.xcp _ ns xs)) => (match (ns.zip xs).lookup f with
    | some v => .ok v h
    | none => .no)
  | _ => .no
def orAll : List (Option Bool) → Option Bool
  | [] => some false
  | none :: _ => none
  | some b :: r => (orAll r).map (b || ·)
def eXis (sub : String → String → Option Bool) (cs : List String) (i : Nat) : E := fun σ h => match σ[i]? with
  | some (some (.xcp c _ _)) => (match orAll (cs.map (sub c)) with
    | some b => .ok (.bl b) h
    | none => .no)
  | _ => .no

/-! ### defs -/
def start (n : Nat) (vs : List AV) : AS := vs.map some ++ List.replicate (n - vs.length) none
/-- p parameters, n slots -/
def mDef (p n : Nat) (b : S) : List AV → M AV := fun vs h => if vs.length = p then (match b (start n vs) h with
  | .nx _ h1 => .ok .non h1
  | .rt v h1 => .ok v h1
  | .ex e _ h1 => .ex e h1
  | _ => .no) else .no
end Mi

end

section
set_option maxHeartbeats 4000000
/-! MiSim: the model of Python does what Mi does. Over HandS. -/
namespace MiS
open PySem PySem.Spec L2
open PyProof.Rows hiding St
open Mi (AV HC AH AX Res AS RS)

abbrev Fg := PySem.W.Frag
/-- the exception that a suite holds: its slot, where it stands, its class, its dict -/
abbrev Xa := Option (Nat × Addr × String × Addr)
/-- the classes by name; the suite's exception -/
structure Ct where
  cl : String → Value
  xa : Xa
def Ct.hold (ct : Ct) (i : Nat) (a : Addr) (c : String) (d : Addr) : Ct := ⟨ct.cl, some (i, a, c, d)⟩
/-- the slot i holds no exception -/
def Ct.ok (ct : Ct) (i : Nat) : Bool := match ct.xa with
  | none => true
  | some q => q.1 != i
/-- the addresses that nobody reads meanwhile; the suite's exception -/
structure Rv where
  l : List Addr
  xa : Xa
instance : Membership Addr Rv := ⟨fun r a => a ∈ r.l⟩
def Rv.more (r : Rv) (a : Addr) : Rv := ⟨a :: r.l, r.xa⟩
theorem Rv.mem_more {r : Rv} {a b : Addr} : b ∈ r.more a ↔ b = a ∨ b ∈ r := List.mem_cons
theorem Rv.mem_self {r : Rv} {a : Addr} : a ∈ r.more a := Rv.mem_more.mpr (.inl rfl)
theorem Rv.mem_of {r : Rv} {a b : Addr} (h : b ∈ r) : b ∈ r.more a := Rv.mem_more.mpr (.inr h)
/-- where we are: the cells' addresses, the addresses that nobody reads meanwhile, the tracked heap -/
structure Cn where
  ρ : List Addr
  X : Rv
  H : Hp
abbrev Cn.at (c : Cn) (H : Hp) : Cn := ⟨c.ρ, c.X, H⟩
def Fix : HO → Prop
  | .tup _ => True
  | .frz _ _ => True
  | _ => False
structure Ext (c d : Cn) : Prop where
  app : ∃ m, d.ρ = c.ρ ++ m ∧ ∀ a ∈ m, c.H a = none
  out : ∀ a o, c.H a = some o → a ∉ c.ρ → d.H a = some o
  fix : ∀ a o, c.H a = some o → Fix o → d.H a = some o
  on : ∀ a o, c.H a = some o → ∃ o', d.H a = some o'
  res : ∀ a ∈ d.X, a ∈ c.X ∨ c.H a = none
  xa : d.X.xa = c.X.xa
theorem Ext.refl (c : Cn) : Ext c c := ⟨⟨[], by simp, by simp⟩, fun _ _ h _ => h, fun _ _ h _ => h, fun _ o h => ⟨o, h⟩, fun _ h => .inl h, rfl⟩
theorem Ext.off {c d : Cn} (e : Ext c d) {a : Addr} (h : d.H a = none) : c.H a = none := by
  cases q : c.H a with
  | none => rfl
  | some o =>
    obtain ⟨o', z⟩ := e.on a o q
    rw [h] at z
    cases z
theorem Ext.trans {c d f : Cn} (a : Ext c d) (b : Ext d f) : Ext c f := by
  obtain ⟨m, e1, n1⟩ := a.app
  obtain ⟨m', e2, n2⟩ := b.app
  refine ⟨⟨m ++ m', by rw [e2, e1, List.append_assoc], fun x hx => ?_⟩, fun x o h h1 => ?_, fun x o h hf => b.fix x o (a.fix x o h hf) hf, fun x o h => ?_, fun x hx => ?_, b.xa.trans a.xa⟩
  · rcases List.mem_append.mp hx with z | z
    · exact n1 x z
    · exact a.off (n2 x z)
  · refine b.out x o (a.out x o h h1) fun z => ?_
    rw [e1] at z
    rcases List.mem_append.mp z with z | z
    · exact h1 z
    · rw [n1 x z] at h
      cases h
  · obtain ⟨o', z⟩ := a.on x o h
    exact b.on x o' z
  · rcases b.res x hx with z | z
    · exact a.res x z
    · exact .inr (a.off z)
/-- what the module wrote itself -/
def KL (K : Fg) (a : Addr) (xs : List V) : Prop := ∃ (o : Obj) (its : Array Value) (n : Nat), K.lookup a = some o ∧ o.cls = .type "list" ∧ o.dict = none ∧ o.data = .seq its n ∧ its.size ≤ sizeLine ∧ Vals xs its.toList
def KT (K : Fg) (a : Addr) (xs : List V) : Prop := ∃ (o : Obj) (its : Array Value) (n : Nat), K.lookup a = some o ∧ o.cls = .type "tuple" ∧ o.data = .seq its n ∧ its.size ≤ sizeLine ∧ Vals xs its.toList
def LsF (c : Cn) (a : Addr) (xs : List V) : Prop := c.H a = some (.lst xs) ∧ a ∉ c.ρ ∧ a ∉ c.X
/-- a list that is only read: locked, or the module's -/
def RdF (K : Fg) (c : Cn) (a : Addr) (xs : List V) : Prop := (∃ o, c.H a = some (.frz o (.lst xs))) ∨ KL K a xs
theorem LsF.sq {K : Fg} {c : Cn} {a : Addr} {xs : List V} (h : LsF c a xs) : SqL K c.H a xs := .inl (.inl h.1)
theorem RdF.sq {K : Fg} {c : Cn} {a : Addr} {xs : List V} (h : RdF K c a xs) : SqL K c.H a xs := by
  rcases h with ⟨o, h⟩ | h
  · exact .inl (.inr ⟨o, h⟩)
  · exact .inr h
theorem Ext.apart {c d : Cn} (e : Ext c d) {a : Addr} {o : HO} (h : c.H a = some o) (h1 : a ∉ c.ρ) (h2 : a ∉ c.X) : a ∉ d.ρ ∧ a ∉ d.X := by
  obtain ⟨m, em, nm⟩ := e.app
  refine ⟨fun z => ?_, fun z => ?_⟩
  · rw [em] at z
    rcases List.mem_append.mp z with z | z
    · exact h1 z
    · rw [nm a z] at h
      cases h
  · rcases e.res a z with z | z
    · exact h2 z
    · rw [z] at h
      cases h
theorem Ext.ls {c d : Cn} (e : Ext c d) {a : Addr} {xs : List V} (h : LsF c a xs) : LsF d a xs := ⟨e.out _ _ h.1 h.2.1, e.apart h.1 h.2.1 h.2.2⟩
theorem Ext.sc {K : Fg} {c d : Cn} (e : Ext c d) {a : Addr} {xs : List V} (h : RdF K c a xs) : RdF K d a xs := by
  rcases h with ⟨o, h⟩ | h
  · exact .inl ⟨o, e.fix _ _ h trivial⟩
  · exact .inr h
def zipS : List String → List V → List (Str × V)
  | n :: ns, v :: vs => ((n : Str), v) :: zipS ns vs
  | _, _ => []
mutual
/-- v is av -/
def Rep (K : Fg) (c : Cn) : AV → V → Prop
  | .non, v => v = .non
  | .bl b, v => v = .bl b
  | .int i, v => v = .int i
  | .str s, v => v = .str ⟨s.toArray⟩
  | .tup xs, v => ∃ a vs, v = .ref a ∧ c.H a = some (.tup vs) ∧ RepL K c xs vs
  | .lst xs, v => ∃ a vs, v = .ref a ∧ LsF c a vs ∧ RepL K c xs vs
  | .scr false xs, v => ∃ a vs, v = .ref a ∧ RdF K c a vs ∧ RepL K c xs vs
  | .scr true xs, v => ∃ a vs, v = .ref a ∧ KT K a vs ∧ RepL K c xs vs
  | .cel n, v => ∃ a, v = .ref a ∧ c.ρ[n]? = some a
  | .xcp _ _ _, _ => False
def RepL (K : Fg) (c : Cn) : List AV → List V → Prop
  | [], vs => vs = []
  | x :: xs, vs => ∃ v r, vs = v :: r ∧ Rep K c x v ∧ RepL K c xs r
end
mutual
theorem Rep.ext {K : Fg} {c d : Cn} (e : Ext c d) : ∀ (x : AV) {v : V}, Rep K c x v → Rep K d x v
  | .non, _, h => by rw [Rep] at h ⊢; exact h
  | .bl _, _, h => by rw [Rep] at h ⊢; exact h
  | .int _, _, h => by rw [Rep] at h ⊢; exact h
  | .str _, _, h => by rw [Rep] at h ⊢; exact h
  | .tup xs, _, h => by
    rw [Rep] at h ⊢
    obtain ⟨a, vs, h1, h2, h3⟩ := h
    exact ⟨a, vs, h1, e.fix _ _ h2 trivial, RepL.ext e xs h3⟩
  | .lst xs, _, h => by
    rw [Rep] at h ⊢
    obtain ⟨a, vs, h1, h2, h3⟩ := h
    exact ⟨a, vs, h1, e.ls h2, RepL.ext e xs h3⟩
  | .scr false xs, _, h => by
    rw [Rep] at h ⊢
    obtain ⟨a, vs, h1, h2, h3⟩ := h
    exact ⟨a, vs, h1, e.sc h2, RepL.ext e xs h3⟩
  | .scr true xs, _, h => by
    rw [Rep] at h ⊢
    obtain ⟨a, vs, h1, h2, h3⟩ := h
    exact ⟨a, vs, h1, h2, RepL.ext e xs h3⟩
  | .cel n, _, h => by
    rw [Rep] at h ⊢
    obtain ⟨a, h1, h2⟩ := h
    obtain ⟨m, em, _⟩ := e.app
    refine ⟨a, h1, ?_⟩
    rw [em, List.getElem?_append_left (List.getElem?_eq_some_iff.mp h2).1]
    exact h2
  | .xcp _ _ _, _, h => by
    rw [Rep] at h
    exact h.elim
theorem RepL.ext {K : Fg} {c d : Cn} (e : Ext c d) : ∀ (xs : List AV) {vs : List V}, RepL K c xs vs → RepL K d xs vs
  | [], _, h => by rw [RepL] at h ⊢; exact h
  | x :: xs, _, h => by
    rw [RepL] at h ⊢
    obtain ⟨v, r, h1, h2, h3⟩ := h
    exact ⟨v, r, h1, Rep.ext e x h2, RepL.ext e xs h3⟩
end
section
variable {K : Fg} {c : Cn}
theorem rep_non {v : V} : Rep K c .non v ↔ v = .non := by rw [Rep]
theorem rep_bl {b : Bool} {v : V} : Rep K c (.bl b) v ↔ v = .bl b := by rw [Rep]
theorem rep_int {i : Int} {v : V} : Rep K c (.int i) v ↔ v = .int i := by rw [Rep]
theorem rep_str {s : List Nat} {v : V} : Rep K c (.str s) v ↔ v = .str ⟨s.toArray⟩ := by rw [Rep]
theorem rep_tup {xs : List AV} {v : V} : Rep K c (.tup xs) v ↔ ∃ a vs, v = .ref a ∧ c.H a = some (.tup vs) ∧ RepL K c xs vs := by rw [Rep]
theorem rep_lst {xs : List AV} {v : V} : Rep K c (.lst xs) v ↔ ∃ a vs, v = .ref a ∧ LsF c a vs ∧ RepL K c xs vs := by rw [Rep]
theorem rep_scrT {xs : List AV} {v : V} : Rep K c (.scr true xs) v ↔ ∃ a vs, v = .ref a ∧ KT K a vs ∧ RepL K c xs vs := by rw [Rep]
theorem rep_scr {xs : List AV} {v : V} : Rep K c (.scr false xs) v ↔ ∃ a vs, v = .ref a ∧ RdF K c a vs ∧ RepL K c xs vs := by rw [Rep]
theorem rep_cel {n : Nat} {v : V} : Rep K c (.cel n) v ↔ ∃ a, v = .ref a ∧ c.ρ[n]? = some a := by rw [Rep]
theorem rep_xcp {cls : String} {ns : List String} {xs : List AV} {v : V} : Rep K c (.xcp cls ns xs) v ↔ False := by rw [Rep]
theorem repL_nil {vs : List V} : RepL K c [] vs ↔ vs = [] := by rw [RepL]
theorem repL_cons {x : AV} {xs : List AV} {vs : List V} : RepL K c (x :: xs) vs ↔ ∃ v r, vs = v :: r ∧ Rep K c x v ∧ RepL K c xs r := by rw [RepL]
theorem RepL.length : ∀ {xs : List AV} {vs : List V}, RepL K c xs vs → xs.length = vs.length
  | [], _, h => by rw [repL_nil] at h; subst h; rfl
  | x :: xs, _, h => by
    rw [repL_cons] at h
    obtain ⟨v, r, rfl, _, h3⟩ := h
    simp [RepL.length h3]
theorem RepL.get : ∀ {xs : List AV} {vs : List V} {i : Nat} {x : AV}, RepL K c xs vs → xs[i]? = some x → ∃ v, vs[i]? = some v ∧ Rep K c x v
  | [], _, _, _, _, e => by simp at e
  | y :: xs, _, 0, x, h, e => by
    rw [repL_cons] at h
    obtain ⟨v, r, rfl, h2, _⟩ := h
    simp at e
    subst e
    exact ⟨v, rfl, h2⟩
  | y :: xs, _, i + 1, x, h, e => by
    rw [repL_cons] at h
    obtain ⟨v, r, rfl, _, h3⟩ := h
    obtain ⟨w, q1, q2⟩ := RepL.get (i := i) (x := x) h3 (by simpa using e)
    exact ⟨w, by simpa using q1, q2⟩
theorem RepL.back {xs : List AV} {vs : List V} {i : Nat} {v : V} (h : RepL K c xs vs) (e : vs[i]? = some v) : ∃ x, xs[i]? = some x ∧ Rep K c x v := by
  have hi : i < xs.length := by
    rw [h.length]
    exact (List.getElem?_eq_some_iff.mp e).1
  obtain ⟨w, q1, q2⟩ := h.get (List.getElem?_eq_getElem hi)
  rw [e] at q1
  cases q1
  exact ⟨_, List.getElem?_eq_getElem hi, q2⟩
theorem RepL.append : ∀ {xs ys : List AV} {vs ws : List V}, RepL K c xs vs → RepL K c ys ws → RepL K c (xs ++ ys) (vs ++ ws)
  | [], _, _, _, h, g => by rw [repL_nil] at h; subst h; exact g
  | x :: xs, ys, _, ws, h, g => by
    rw [repL_cons] at h
    obtain ⟨v, r, rfl, h2, h3⟩ := h
    show RepL K c (x :: (xs ++ ys)) (v :: (r ++ ws))
    rw [repL_cons]
    exact ⟨v, r ++ ws, rfl, h2, RepL.append h3 g⟩
theorem RepL.one {x : AV} {v : V} (h : Rep K c x v) : RepL K c [x] [v] := by
  rw [repL_cons]
  exact ⟨v, [], rfl, h, by rw [repL_nil]⟩
theorem RepL.cons {x : AV} {v : V} {xs : List AV} {vs : List V} (h : Rep K c x v) (g : RepL K c xs vs) : RepL K c (x :: xs) (v :: vs) := by
  rw [repL_cons]
  exact ⟨v, vs, rfl, h, g⟩
theorem RepL.take : ∀ (n : Nat) {xs : List AV} {vs : List V}, RepL K c xs vs → RepL K c (xs.take n) (vs.take n)
  | 0, _, _, _ => by simp [repL_nil]
  | n + 1, [], _, h => by rw [repL_nil] at h; subst h; simp [repL_nil]
  | n + 1, x :: xs, _, h => by
    rw [repL_cons] at h
    obtain ⟨v, r, rfl, h2, h3⟩ := h
    exact RepL.cons h2 (RepL.take n h3)
theorem RepL.drop : ∀ (n : Nat) {xs : List AV} {vs : List V}, RepL K c xs vs → RepL K c (xs.drop n) (vs.drop n)
  | 0, _, _, h => h
  | n + 1, [], _, h => by rw [repL_nil] at h; subst h; simp [repL_nil]
  | n + 1, x :: xs, _, h => by
    rw [repL_cons] at h
    obtain ⟨v, r, rfl, h2, h3⟩ := h
    exact RepL.drop n h3
theorem RepL.set : ∀ (n : Nat) {xs : List AV} {vs : List V} {x : AV} {v : V}, RepL K c xs vs → Rep K c x v → RepL K c (xs.set n x) (vs.set n v)
  | _, [], _, _, _, h, _ => by rw [repL_nil] at h; subst h; simp [repL_nil]
  | 0, y :: xs, _, x, v, h, g => by
    rw [repL_cons] at h
    obtain ⟨w, r, rfl, h2, h3⟩ := h
    exact RepL.cons g h3
  | n + 1, y :: xs, _, x, v, h, g => by
    rw [repL_cons] at h
    obtain ⟨w, r, rfl, h2, h3⟩ := h
    exact RepL.cons h2 (RepL.set n h3 g)
theorem RepL.erase : ∀ (n : Nat) {xs : List AV} {vs : List V}, RepL K c xs vs → RepL K c (xs.eraseIdx n) (vs.eraseIdx n)
  | _, [], _, h => by rw [repL_nil] at h; subst h; simp [repL_nil]
  | 0, y :: xs, _, h => by
    rw [repL_cons] at h
    obtain ⟨w, r, rfl, h2, h3⟩ := h
    exact h3
  | n + 1, y :: xs, _, h => by
    rw [repL_cons] at h
    obtain ⟨w, r, rfl, h2, h3⟩ := h
    exact RepL.cons h2 (RepL.erase n h3)
theorem RepL.dropLast {xs : List AV} {vs : List V} (h : RepL K c xs vs) : RepL K c xs.dropLast vs.dropLast := by
  rw [List.dropLast_eq_take, List.dropLast_eq_take, h.length]
  exact h.take _
theorem RepL.reverse : ∀ {xs : List AV} {vs : List V}, RepL K c xs vs → RepL K c xs.reverse vs.reverse
  | [], _, h => by rw [repL_nil] at h; subst h; simp [repL_nil]
  | x :: xs, _, h => by
    rw [repL_cons] at h
    obtain ⟨v, r, rfl, h2, h3⟩ := h
    rw [List.reverse_cons, List.reverse_cons]
    exact (RepL.reverse h3).append (RepL.one h2)
theorem RepL.ints (ns : List Int) : RepL K c (ns.map AV.int) (ns.map V.int) := by
  induction ns with
  | nil => simp [repL_nil]
  | cons n r ih => exact RepL.cons (by rw [rep_int]) ih
theorem RepL.strs (ss : List (List Nat)) : RepL K c (ss.map AV.str) (ss.map fun s => V.str ⟨s.toArray⟩) := by
  induction ss with
  | nil => simp [repL_nil]
  | cons n r ih => exact RepL.cons (by rw [rep_str]) ih
end

/-! ### cells -/
/-- a dict's entries: keys are ints and texts | tuples of such -/
def akey : AV → Option Key
  | .int i => some (.inl i)
  | .str s => some (.inr ⟨s.toArray⟩)
  | _ => none
def akeys : List AV → Option (List Key)
  | [] => some []
  | x :: r => match akey x, akeys r with
    | some k, some ks => some (k :: ks)
    | _, _ => none
def akeyT : AV → Option (List Key)
  | .tup xs => akeys xs
  | _ => none
def RepKV {κ : Type} (key : AV → Option κ) (K : Fg) (c : Cn) : List (AV × AV) → List (κ × V) → Prop
  | [], ks => ks = []
  | (a, b) :: r, ks => ∃ k v s, ks = (k, v) :: s ∧ key a = some k ∧ Rep K c b v ∧ RepKV key K c r s
def CellAt (K : Fg) (c : Cn) (a : Addr) : HC → Prop
  | .lst xs => ∃ vs, c.H a = some (.lst vs) ∧ RepL K c xs vs
  | .dic false kvs => ∃ ks, c.H a = some (.dK ks) ∧ RepKV akey K c kvs ks
  | .dic true kvs => ∃ ks, c.H a = some (.dT ks) ∧ RepKV akeyT K c kvs ks
theorem RepKV.ext {κ : Type} {key : AV → Option κ} {K : Fg} {c d : Cn} (e : Ext c d) : ∀ {kvs : List (AV × AV)} {ks : List (κ × V)}, RepKV key K c kvs ks → RepKV key K d kvs ks
  | [], _, h => h
  | (a, b) :: r, _, h => by
    obtain ⟨k, v, s, h1, h2, h3, h4⟩ := h
    exact ⟨k, v, s, h1, h2, h3.ext e, RepKV.ext e h4⟩
structure RepH (K : Fg) (c : Cn) (h : AH) : Prop where
  len : c.ρ.length = h.length
  nd : c.ρ.Nodup
  cell : ∀ (n : Nat) (a : Addr) (o : HC), c.ρ[n]? = some a → h[n]? = some o → CellAt K c a o
  res : ∀ a ∈ c.X, c.H a ≠ none ∧ a ∉ c.ρ
/-- the suite's exception stands in its slot -/
def HoldS (K : Fg) (ct : Ct) (c : Cn) (as : AS) (σ : St) : Prop := match ct.xa with
  | none => True
  | some (i, a, cls, dd) => σ[i]? = some (some (.ref a)) ∧ ∃ ns xs vs, as[i]? = some (some (.xcp cls ns xs)) ∧ c.H dd = some (.xd (zipS ns vs)) ∧ dd ∉ c.ρ ∧ dd ∉ c.X ∧ ns.length = xs.length ∧ RepL K c xs vs
def RepS (K : Fg) (ct : Ct) (c : Cn) (as : AS) (σ : St) : Prop := as.length = σ.length ∧ (∀ (i : Nat) (x : AV), ct.ok i = true → as[i]? = some (some x) → ∃ v, σ[i]? = some (some v) ∧ Rep K c x v) ∧ HoldS K ct c as σ
theorem HoldS.ext {K : Fg} {ct : Ct} {c d : Cn} (e : Ext c d) {as : AS} {σ : St} (h : HoldS K ct c as σ) : HoldS K ct d as σ := by
  unfold HoldS at h ⊢
  split at h
  · trivial
  · obtain ⟨h1, ns, xs, vs, h2, h3, h4, h5, h6, h7⟩ := h
    obtain ⟨q1, q2⟩ := e.apart h3 h4 h5
    exact ⟨h1, ns, xs, vs, h2, e.out _ _ h3 h4, q1, q2, h6, RepL.ext e xs h7⟩
theorem HoldS.set {K : Fg} {ct : Ct} {c : Cn} {as : AS} {σ : St} (h : HoldS K ct c as σ) {i : Nat} (hk : ct.ok i = true) (x : Option AV) (v : Option V) : HoldS K ct c (as.set i x) (σ.set i v) := by
  unfold HoldS at h ⊢
  unfold Ct.ok at hk
  split at h
  · trivial
  · rename_i j a cls dd e
    rw [e] at hk
    have ne : i ≠ j := fun z => by
      subst z
      simp at hk
    obtain ⟨h1, ns, xs, vs, h2, r⟩ := h
    exact ⟨by rw [List.getElem?_set_ne ne]; exact h1, ns, xs, vs, by rw [List.getElem?_set_ne ne]; exact h2, r⟩
theorem RepS.ext {K : Fg} {ct : Ct} {c d : Cn} (e : Ext c d) {as : AS} {σ : St} (h : RepS K ct c as σ) : RepS K ct d as σ :=
  ⟨h.1, fun i x hk hx => let ⟨v, h1, h2⟩ := h.2.1 i x hk hx; ⟨v, h1, h2.ext e⟩, h.2.2.ext e⟩
theorem RepS.set {K : Fg} {ct : Ct} {c : Cn} {as : AS} {σ : St} (h : RepS K ct c as σ) (i : Nat) (hk : ct.ok i = true) {x : AV} {v : V} (r : Rep K c x v) : RepS K ct c (as.set i (some x)) (σ.set i (some v)) := by
  refine ⟨by simp [h.1], fun j y hj hy => ?_, h.2.2.set hk _ _⟩
  by_cases e : i = j
  · subst e
    by_cases hi : i < as.length
    · rw [List.getElem?_set_self hi] at hy
      cases hy
      exact ⟨v, List.getElem?_set_self (by rw [← h.1]; exact hi), r⟩
    · rw [List.getElem?_eq_none (by simpa using hi)] at hy
      cases hy
  · rw [List.getElem?_set_ne e] at hy ⊢
    exact h.2.1 j y hj hy
theorem RepS.gone {K : Fg} {ct : Ct} {c : Cn} {as : AS} {σ : St} (h : RepS K ct c as σ) (i : Nat) (hk : ct.ok i = true) (o : Option V) : RepS K ct c (as.set i none) (σ.set i o) := by
  refine ⟨by simp [h.1], fun j y hj hy => ?_, h.2.2.set hk _ _⟩
  by_cases e : i = j
  · subst e
    by_cases hi : i < as.length
    · rw [List.getElem?_set_self hi] at hy
      cases hy
    · rw [List.getElem?_eq_none (by simpa using hi)] at hy
      cases hy
  · rw [List.getElem?_set_ne e] at hy ⊢
    exact h.2.1 j y hj hy
theorem RepH.kind {K : Fg} {c : Cn} {h : AH} (rh : RepH K c h) {a : Addr} (ha : a ∈ c.ρ) : ∃ o, c.H a = some o ∧ ¬ Fix o := by
  obtain ⟨n, hn⟩ := List.mem_iff_getElem?.mp ha
  have hl : n < h.length := by
    rw [← rh.len]
    exact (List.getElem?_eq_some_iff.mp hn).1
  have z := rh.cell n a _ hn (List.getElem?_eq_getElem hl)
  cases q : h[n] with
  | lst xs =>
    rw [q] at z
    obtain ⟨vs, e, _⟩ := z
    exact ⟨_, e, fun w => w⟩
  | dic t kvs =>
    rw [q] at z
    cases t with
    | false =>
      obtain ⟨ks, e, _⟩ := z
      exact ⟨_, e, fun w => w⟩
    | true =>
      obtain ⟨ks, e, _⟩ := z
      exact ⟨_, e, fun w => w⟩
theorem CellAt.ext {K : Fg} {c d : Cn} (e : Ext c d) {a : Addr} {o : HC} (hs : d.H a = c.H a) (h : CellAt K c a o) : CellAt K d a o := by
  cases o with
  | lst xs =>
    obtain ⟨vs, h1, h2⟩ := h
    exact ⟨vs, hs.trans h1, RepL.ext e _ h2⟩
  | dic t kvs =>
    cases t with
    | false =>
      obtain ⟨ks, h1, h2⟩ := h
      exact ⟨ks, hs.trans h1, h2.ext e⟩
    | true =>
      obtain ⟨ks, h1, h2⟩ := h
      exact ⟨ks, hs.trans h1, h2.ext e⟩
/-- a new object that is no cell -/
theorem ext_new {c : Cn} {p : Addr} {o : HO} (hp : c.H p = none) : Ext c (c.at (upd c.H p o)) :=
  ⟨⟨[], by simp, by simp⟩, fun a u h _ => (upd_ne (ne_of_none h hp)).trans h, fun a u h _ => (upd_ne (ne_of_none h hp)).trans h,
    fun a u h => ⟨u, (upd_ne (ne_of_none h hp)).trans h⟩, fun _ h => .inl h, rfl⟩
theorem RepH.laid {K : Fg} {c : Cn} {h : AH} (rh : RepH K c h) {p : Addr} {o : HO} (hp : c.H p = none) : RepH K (c.at (upd c.H p o)) h := by
  refine ⟨rh.len, rh.nd, fun n a u hn hu => ?_, fun a ha => ?_⟩
  · obtain ⟨o', e, _⟩ := rh.kind (List.mem_of_getElem? hn)
    exact (rh.cell n a u hn hu).ext (ext_new hp) (upd_ne (ne_of_none e hp))
  · obtain ⟨h1, h2⟩ := rh.res a ha
    refine ⟨?_, h2⟩
    show upd c.H p o a ≠ none
    rw [upd_ne (fun z => h1 (by rw [z]; exact hp))]
    exact h1
theorem RepH.new_ne {K : Fg} {c : Cn} {h : AH} (rh : RepH K c h) {p : Addr} (hp : c.H p = none) : p ∉ c.ρ ∧ p ∉ c.X := by
  refine ⟨fun z => ?_, fun z => (rh.res p z).1 hp⟩
  obtain ⟨o, e, _⟩ := rh.kind z
  rw [hp] at e
  cases e
/-- a new cell -/
theorem ext_cell {c : Cn} {p : Addr} {o : HO} (hp : c.H p = none) : Ext c ⟨c.ρ ++ [p], c.X, upd c.H p o⟩ :=
  ⟨⟨[p], rfl, fun a ha => by rw [List.mem_singleton.mp ha]; exact hp⟩, fun a u h _ => by show upd c.H p o a = _; rw [upd_ne (ne_of_none h hp)]; exact h, fun a u h _ => by show upd c.H p o a = _; rw [upd_ne (ne_of_none h hp)]; exact h,
    fun a u h => ⟨u, by show upd c.H p o a = _; rw [upd_ne (ne_of_none h hp)]; exact h⟩, fun _ h => .inl h, rfl⟩
theorem RepH.newcell {K : Fg} {c : Cn} {h : AH} (rh : RepH K c h) {p : Addr} {o : HO} {x : HC} (hp : c.H p = none) (hx : CellAt K ⟨c.ρ ++ [p], c.X, upd c.H p o⟩ p x) : RepH K ⟨c.ρ ++ [p], c.X, upd c.H p o⟩ (h ++ [x]) := by
  obtain ⟨np, nx⟩ := rh.new_ne hp
  refine ⟨by simp [rh.len], ?_, fun n a u hn hu => ?_, fun a ha => ?_⟩
  · rw [List.nodup_append]
    exact ⟨rh.nd, by simp, fun a ha b hb => by rw [List.mem_singleton.mp hb]; exact fun z => np (z ▸ ha)⟩
  · have hn : (c.ρ ++ [p])[n]? = some a := hn
    by_cases hl : n < c.ρ.length
    · rw [List.getElem?_append_left hl] at hn
      rw [List.getElem?_append_left (by rw [← rh.len]; exact hl)] at hu
      obtain ⟨o', e, _⟩ := rh.kind (List.mem_of_getElem? hn)
      exact (rh.cell n a u hn hu).ext (ext_cell hp) (upd_ne (ne_of_none e hp))
    · rw [List.getElem?_append_right (by omega)] at hn
      rw [List.getElem?_append_right (by rw [← rh.len]; omega), ← rh.len] at hu
      have z : n - c.ρ.length = 0 := by
        have := (List.getElem?_eq_some_iff.mp hn).1
        simp at this
        omega
      rw [z] at hn hu
      simp at hn hu
      subst hn hu
      exact hx
  · obtain ⟨h1, h2⟩ := rh.res a ha
    have hap : a ≠ p := fun z => h1 (by rw [z]; exact hp)
    refine ⟨by show upd c.H p o a ≠ none; rw [upd_ne hap]; exact h1, fun z => ?_⟩
    rcases List.mem_append.mp z with z | z
    · exact h2 z
    · exact hap (List.mem_singleton.mp z)
/-- a cell is written -/
theorem ext_write {K : Fg} {c : Cn} {h : AH} (rh : RepH K c h) {p : Addr} {o : HO} (hp : p ∈ c.ρ) : Ext c (c.at (upd c.H p o)) := by
  obtain ⟨u, e, nf⟩ := rh.kind hp
  refine ⟨⟨[], by simp, by simp⟩, fun a w hw h1 => ?_, fun a w hw hf => ?_, fun a w hw => ?_, fun _ z => .inl z, rfl⟩
  · show upd c.H p o a = _
    rw [upd_ne (fun z => h1 (by rw [z]; exact hp))]
    exact hw
  · show upd c.H p o a = _
    rw [upd_ne (fun z => nf (by rw [z, e] at hw; cases hw; exact hf))]
    exact hw
  · by_cases z : a = p
    · exact ⟨o, by show upd c.H p o a = _; rw [z]; exact upd_same⟩
    · exact ⟨w, by show upd c.H p o a = _; rw [upd_ne z]; exact hw⟩
theorem RepH.write {K : Fg} {c : Cn} {h : AH} (rh : RepH K c h) {n : Nat} {p : Addr} {o : HO} {x : HC} (hp : c.ρ[n]? = some p) (hx : CellAt K (c.at (upd c.H p o)) p x) : RepH K (c.at (upd c.H p o)) (h.set n x) := by
  have hm := List.mem_of_getElem? hp
  have hl := (List.getElem?_eq_some_iff.mp hp).1
  refine ⟨by simp [rh.len], rh.nd, fun m a u hm' hu => ?_, fun a ha => ?_⟩
  · by_cases e : n = m
    · subst e
      rw [List.getElem?_set_self (by rw [← rh.len]; exact hl)] at hu
      cases hu
      have hm' : c.ρ[n]? = some a := hm'
      rw [hp] at hm'
      cases hm'
      exact hx
    · rw [List.getElem?_set_ne e] at hu
      refine (rh.cell m a u hm' hu).ext (ext_write rh hm) (upd_ne fun z => e ?_)
      have hm' : c.ρ[m]? = some a := hm'
      obtain ⟨l1, e1⟩ := List.getElem?_eq_some_iff.mp hp
      obtain ⟨l2, e2⟩ := List.getElem?_eq_some_iff.mp hm'
      exact (List.getElem_inj rh.nd).mp (by rw [e1, e2, z])
  · obtain ⟨h1, h2⟩ := rh.res a ha
    refine ⟨?_, h2⟩
    show upd c.H p o a ≠ none
    rw [upd_ne (fun z => h2 (by rw [z]; exact hm))]
    exact h1

/-! ### what Mi computes, as a reading -/
/-- the exception: its class, its own dict -/
def RepX (K : Fg) (ct : Ct) (c : Cn) (cls : Value) (d : Option Addr) (e : AX) : Prop :=
  cls = ct.cl e.cls ∧ ∃ dd vs, d = some dd ∧ c.H dd = some (.xd (zipS e.ns vs)) ∧ dd ∉ c.ρ ∧ dd ∉ c.X ∧ e.ns.length = e.xs.length ∧ RepL K c e.xs vs
theorem RepX.ext {K : Fg} {ct : Ct} {c d : Cn} (e : Ext c d) {cls : Value} {od : Option Addr} {x : AX} (h : RepX K ct c cls od x) : RepX K ct d cls od x := by
  obtain ⟨h1, dd, xs, h2, h3, h4, h5, h6, h7⟩ := h
  obtain ⟨q1, q2⟩ := e.apart h3 h4 h5
  exact ⟨h1, dd, xs, h2, e.out _ _ h3 h4, q1, q2, h6, RepL.ext e _ h7⟩
/-- how a result of Mi is seen -/
abbrev Rl (α β : Type) := Cn → α → β → Prop
def Post (K : Fg) (ct : Ct) (W : WX) {α β : Type} (R : Rl α β) (c : Cn) (σ : St) (Q : β → Hp → Prop) : Res α → Prop
  | .ok a h => ∀ (d : Cn) (b : β), d.X = c.X → Ext c d → RepH K d h → R d a b → Q b d.H
  | .ex e h => ∀ (d : Cn) (cls : Value) (od : Option Addr), d.X = c.X → Ext c d → RepH K d h → RepX K ct d cls od e → W cls od σ d.H
  | .no => False
def tM (K : Fg) (ct : Ct) (W : WX) {α β : Type} (R : Rl α β) (m : AS → AH → Res α) : St → Hp → (β → Hp → Prop) → Prop := fun σ H Q =>
  ∃ (c : Cn) (h : AH) (as : AS), c.H = H ∧ RepH K c h ∧ RepS K ct c as σ ∧ Post K ct W R c σ Q (m as h)
/-- what is carried through a step -/
structure Pk (K : Fg) (ct : Ct) (W : WX) (σ : St) {γ : Type} (c : Cn) (P : Cn → Res γ → Prop) : Prop where
  mono : ∀ (d : Cn) (r : Res γ), d.X = c.X → Ext c d → P c r → P d r
  ex : ∀ (e : AX) (h : AH), P c (.ex e h) → ∀ (d : Cn) (cls : Value) (od : Option Addr), d.X = c.X → Ext c d → RepH K d h → RepX K ct d cls od e → W cls od σ d.H
  no : ¬ P c .no
theorem Post.mono {K : Fg} {ct : Ct} {W : WX} {α β : Type} {R : Rl α β} {c d : Cn} {σ : St} {Q : β → Hp → Prop} {r : Res α} (hx : d.X = c.X) (e : Ext c d) (h : Post K ct W R c σ Q r) : Post K ct W R d σ Q r := by
  cases r with
  | ok a h' => exact fun f b x1 e1 r1 q1 => h f b (x1.trans hx) (e.trans e1) r1 q1
  | ex x h' => exact fun f cls od x1 e1 r1 q1 => h f cls od (x1.trans hx) (e.trans e1) r1 q1
  | no => exact h
theorem Post.pk {K : Fg} {ct : Ct} {W : WX} {α β : Type} {R : Rl α β} {σ : St} {Q : β → Hp → Prop} {c : Cn} : Pk K ct W σ c (fun c r => Post K ct W R c σ Q r) :=
  ⟨fun _ _ hx e h => Post.mono hx e h, fun _ _ h d cls od x1 e1 r1 q1 => h d cls od x1 e1 r1 q1, fun h => h⟩
section
variable {K : Fg} {ct : Ct} {W : WX} {α β γ : Type} {R : Rl α β} {m : AS → AH → Res α} {f : α → AH → Res γ} {P : Cn → Res γ → Prop} {c : Cn} {h : AH} {as : AS} {σ : St} {Q : β → Hp → Prop}
/-- THE STEP -/
theorem tM_bind (pk : Pk K ct W σ c P) (rh : RepH K c h) (rs : RepS K ct c as σ) (hp : P c ((m as h).bind f))
    (k : ∀ (d : Cn) (h1 : AH) (a : α) (b : β), d.X = c.X → Ext c d → RepH K d h1 → RepS K ct d as σ → R d a b → P d (f a h1) → Q b d.H) : tM K ct W R m σ c.H Q := by
  refine ⟨c, h, as, rfl, rh, rs, ?_⟩
  cases e : m as h with
  | ok a h1 =>
    rw [e] at hp
    exact fun d b hx e1 r1 q1 => k d h1 a b hx e1 r1 (rs.ext e1) q1 (pk.mono d _ hx e1 hp)
  | ex x h1 =>
    rw [e] at hp
    exact fun d cls od hx e1 r1 q1 => pk.ex x h1 hp d cls od hx e1 r1 q1
  | no =>
    rw [e] at hp
    exact (pk.no hp).elim
end
theorem tM_bindC {K : Fg} {ct : Ct} {W : WX} {α β γ : Type} {R : Rl α β} {m : AS → AH → Res α} {f : α → AH → Res γ} {P : Cn → Res γ → Prop} {c : Cn} {h : AH} {as : AS} {σ : St} {Q : β → Hp → Prop} (pk : Pk K ct W σ c P) (rh : RepH K c h) (rs : RepS K ct c as σ) (hp : P c ((m as h).bind f))
    (k : ∀ (d : Cn) (h1 : AH) (a : α) (b : β), d.X = c.X → Ext c d → RepH K d h1 → RepS K ct d as σ → R d a b → P c (f a h1) → Q b d.H) : tM K ct W R m σ c.H Q := by
  refine ⟨c, h, as, rfl, rh, rs, ?_⟩
  cases e : m as h with
  | ok a h1 =>
    rw [e] at hp
    exact fun d b hx e1 r1 q1 => k d h1 a b hx e1 r1 (rs.ext e1) q1 hp
  | ex x h1 =>
    rw [e] at hp
    exact fun d cls od hx e1 r1 q1 => pk.ex x h1 hp d cls od hx e1 r1 q1
  | no =>
    rw [e] at hp
    exact (pk.no hp).elim
abbrev RE (K : Fg) : Rl AV V := fun c a v => Rep K c a v
abbrev RA (K : Fg) : Rl (List AV) (List V) := fun c a v => RepL K c a v
abbrev RQ {α : Type} : Rl α α := fun _ a b => a = b
section
variable (ct : Ct) (X : Cx) (W : WX)
abbrev QE (e : Expr) (m : Mi.E) : Prop := PE X e (tM X.K ct W (RE X.K) m)
abbrev QT (e : Expr) (m : Mi.T) : Prop := PT X e (tM X.K ct W RQ m)
abbrev QW (e : Expr) (m : Mi.T) : Prop := PW X e (tM X.K ct W RQ m)
abbrev QA (es : List Expr) (m : Mi.A) : Prop := PA X es (tM X.K ct W (RA X.K) m)
abbrev QO (e : Option Expr) (m : Mi.O) : Prop := PO X e (tM X.K ct W RQ m)
end
theorem PE.imp {X : Cx} {e : Expr} {t u : TE} (p : PE X e t) (h : ∀ σ H Q, u σ H Q → t σ H Q) : PE X e u := ⟨fun pins s σ H Q I q => p.run pins s σ H Q I (h σ H Q q)⟩
theorem PT.imp {X : Cx} {e : Expr} {t u : TT} (p : PT X e t) (h : ∀ σ H Q, u σ H Q → t σ H Q) : PT X e u := ⟨fun pins s σ H Q I q => p.run pins s σ H Q I (h σ H Q q)⟩
theorem PW.imp {X : Cx} {e : Expr} {t u : TT} (p : PW X e t) (h : ∀ σ H Q, u σ H Q → t σ H Q) : PW X e u := ⟨fun wh pins s σ H Q I q => p.run wh pins s σ H Q I (h σ H Q q)⟩
theorem PA.imp {X : Cx} {es : List Expr} {t u : TA} (p : PA X es t) (h : ∀ σ H Q, u σ H Q → t σ H Q) : PA X es u := ⟨fun pos pins s σ H Q I q => p.run pos pins s σ H Q I (h σ H Q q)⟩
theorem PO.imp {X : Cx} {e : Option Expr} {t u : TO} (p : PO X e t) (h : ∀ σ H Q, u σ H Q → t σ H Q) : PO X e u := ⟨fun pins s σ H Q I q => p.run pins s σ H Q I (h σ H Q q)⟩
theorem PS.imp {X : Cx} {st : Stmt} {t u : TS} (p : PS X st t) (h : ∀ D σ H, u D σ H → t D σ H) : PS X st u := ⟨fun pins s σ H D I q => p.run pins s σ H D I (h D σ H q)⟩
theorem PSs.imp {X : Cx} {st : List Stmt} {t u : TS} (p : PSs X st t) (h : ∀ D σ H, u D σ H → t D σ H) : PSs X st u := ⟨fun pins s σ H D I q => p.run pins s σ H D I (h D σ H q)⟩
theorem PG.imp {X : Cx} {e : Expr} {t u : TG} (p : PG X e t) (h : ∀ v σ H Q, u v σ H Q → t v σ H Q) : PG X e u := ⟨fun pins s σ H v w Q I r q => p.run pins s σ H v w Q I r (h v σ H Q q)⟩
theorem PGs.imp {X : Cx} {e : List Expr} {t u : TGs} (p : PGs X e t) (h : ∀ v σ H Q, u v σ H Q → t v σ H Q) : PGs X e u := ⟨fun pins s σ H v w Q I r q => p.run pins s σ H v w Q I r (h v σ H Q q)⟩
theorem PI.imp {X : Cx} {tg e : Expr} {t u : TI} (p : PI X tg e t) (h : ∀ σ H Q, u σ H Q → t σ H Q) : PI X tg e u := ⟨fun pins s σ H R I q => p.run pins s σ H R I (h σ H R q)⟩
end MiS

end

section
set_option maxHeartbeats 4000000
namespace MiS
open PySem PySem.Spec L2
open PyProof.Rows hiding St
open Mi (AV HC AH AX Res AS RS)

/-! ### operations by values -/
def PV (K : Fg) (c : Cn) (Q : VK) : Res AV → Prop
  | .ok a h => ∀ (d : Cn) (v : V), d.X = c.X → Ext c d → RepH K d h → Rep K d a v → Q v d.H
  | _ => False
section
variable {K : Fg} {c : Cn} {h : AH} {Q : VK}
theorem PV.here {a : AV} {v : V} (q : PV K c Q (.ok a h)) (rh : RepH K c h) (r : Rep K c a v) : Q v c.H := q c v rfl (.refl c) rh r
theorem PV.tup {xs : List AV} {vs : List V} {p : Addr} (q : PV K c Q (.ok (.tup xs) h)) (rh : RepH K c h) (r : RepL K c xs vs) (hp : c.H p = none) : Q (.ref p) (upd c.H p (.tup vs)) :=
  q (c.at (upd c.H p (.tup vs))) _ rfl (ext_new hp) (rh.laid hp) (by rw [rep_tup]; exact ⟨p, vs, rfl, upd_same, RepL.ext (ext_new hp) _ r⟩)
theorem PV.lst {xs : List AV} {vs : List V} {p : Addr} (q : PV K c Q (.ok (.lst xs) h)) (rh : RepH K c h) (r : RepL K c xs vs) (hp : c.H p = none) : Q (.ref p) (upd c.H p (.lst vs)) :=
  q (c.at (upd c.H p (.lst vs))) _ rfl (ext_new hp) (rh.laid hp) (by rw [rep_lst]; exact ⟨p, vs, rfl, ⟨upd_same, rh.new_ne hp⟩, RepL.ext (ext_new hp) _ r⟩)
theorem PV.cell {xs : List AV} {vs : List V} {p : Addr} (q : PV K c Q (.ok (.cel h.length) (h ++ [.lst xs]))) (rh : RepH K c h) (r : RepL K c xs vs) (hp : c.H p = none) : Q (.ref p) (upd c.H p (.lst vs)) :=
  q ⟨c.ρ ++ [p], c.X, upd c.H p (.lst vs)⟩ _ rfl (ext_cell hp) (rh.newcell hp ⟨vs, upd_same, RepL.ext (ext_cell hp) _ r⟩) (by
    rw [rep_cel]
    refine ⟨p, rfl, ?_⟩
    show (c.ρ ++ [p])[h.length]? = some p
    rw [← rh.len]
    simp)
theorem PV.dict {p : Addr} (q : PV K c Q (.ok (.cel h.length) (h ++ [.dic false []]))) (rh : RepH K c h) (hp : c.H p = none) : Q (.ref p) (upd c.H p (.dK [])) :=
  q ⟨c.ρ ++ [p], c.X, upd c.H p (.dK [])⟩ _ rfl (ext_cell hp) (rh.newcell hp ⟨[], upd_same, rfl⟩) (by
    rw [rep_cel]
    refine ⟨p, rfl, ?_⟩
    show (c.ρ ++ [p])[h.length]? = some p
    rw [← rh.len]
    simp)
theorem PV.dictT {p : Addr} (q : PV K c Q (.ok (.cel h.length) (h ++ [.dic true []]))) (rh : RepH K c h) (hp : c.H p = none) : Q (.ref p) (upd c.H p (.dT [])) :=
  q ⟨c.ρ ++ [p], c.X, upd c.H p (.dT [])⟩ _ rfl (ext_cell hp) (rh.newcell hp ⟨[], upd_same, rfl⟩) (by
    rw [rep_cel]
    refine ⟨p, rfl, ?_⟩
    show (c.ρ ++ [p])[h.length]? = some p
    rw [← rh.len]
    simp)
theorem PV.write {a : AV} {v : V} {n : Nat} {p : Addr} {o : HO} {x : HC} (q : PV K c Q (.ok a (h.set n x))) (rh : RepH K c h) (hp : c.ρ[n]? = some p) (hx : CellAt K (c.at (upd c.H p o)) p x) (r : Rep K c a v) : Q v (upd c.H p o) :=
  q (c.at (upd c.H p o)) v rfl (ext_write rh (List.mem_of_getElem? hp)) (rh.write hp hx) (r.ext (ext_write rh (List.mem_of_getElem? hp)))
theorem cell_lst {n : Nat} {xs : List AV} {p : Addr} (rh : RepH K c h) (hp : c.ρ[n]? = some p) (hn : h[n]? = some (.lst xs)) : ∃ vs, c.H p = some (.lst vs) ∧ RepL K c xs vs := rh.cell n p _ hp hn
theorem lst_at {a : AV} {xs : List AV} {v : V} (rh : RepH K c h) (r : Rep K c a v) (e : Mi.lstOf h a = some xs) : ∃ p vs, v = .ref p ∧ c.H p = some (.lst vs) ∧ RepL K c xs vs := by
  unfold Mi.lstOf at e
  split at e
  · cases e
    rw [rep_lst] at r
    obtain ⟨p, vs, h1, h2, h3⟩ := r
    exact ⟨p, vs, h1, h2.1, h3⟩
  · split at e
    · cases e
      rename_i n _ hn
      rw [rep_cel] at r
      obtain ⟨p, h1, h2⟩ := r
      obtain ⟨vs, h3, h4⟩ := cell_lst rh h2 hn
      exact ⟨p, vs, h1, h3, h4⟩
    · cases e
  · cases e
theorem seq_at {a : AV} {xs : List AV} {v : V} (rh : RepH K c h) (r : Rep K c a v) (e : Mi.seqOf h a = some xs) : ∃ p vs, v = .ref p ∧ (SqL K c.H p vs ∨ SqT K c.H p vs) ∧ RepL K c xs vs := by
  cases a with
  | tup ys =>
    cases e
    rw [rep_tup] at r
    obtain ⟨p, vs, h1, h2, h3⟩ := r
    exact ⟨p, vs, h1, .inr (.inl (.inl h2)), h3⟩
  | scr t ys =>
    cases e
    cases t with
    | false =>
      rw [rep_scr] at r
      obtain ⟨p, vs, h1, h2, h3⟩ := r
      exact ⟨p, vs, h1, .inl h2.sq, h3⟩
    | true =>
      rw [rep_scrT] at r
      obtain ⟨p, vs, h1, h2, h3⟩ := r
      exact ⟨p, vs, h1, .inr (.inr h2), h3⟩
  | lst ys =>
    obtain ⟨p, vs, h1, h2, h3⟩ := lst_at rh r e
    exact ⟨p, vs, h1, .inl (.inl (.inl h2)), h3⟩
  | cel n =>
    obtain ⟨p, vs, h1, h2, h3⟩ := lst_at rh r e
    exact ⟨p, vs, h1, .inl (.inl (.inl h2)), h3⟩
  | non => cases e
  | bl b => cases e
  | int i => cases e
  | str s => cases e
  | xcp => cases e
end
abbrev line_eq : sizeLine = Mi.LINE := sizeLine_eq
theorem str_len (s : List Nat) : (⟨s.toArray⟩ : Str).length = s.length := by simp [Str.length]
theorem str_app (s t : List Nat) : (⟨s.toArray⟩ : Str) ++ ⟨t.toArray⟩ = ⟨(s ++ t).toArray⟩ := by
  apply Str.ext'
  rw [Str.cps_append]
  simp

def oM1 (K : Fg) (f : AV → Mi.M AV) : V → Hp → VK → Prop := fun x H Q => ∃ (c : Cn) (h : AH) (ax : AV), c.H = H ∧ RepH K c h ∧ Rep K c ax x ∧ PV K c Q (f ax h)
def oM2 (K : Fg) (f : AV → AV → Mi.M AV) : R2 := fun x y H Q => ∃ (c : Cn) (h : AH) (ax ay : AV), c.H = H ∧ RepH K c h ∧ Rep K c ax x ∧ Rep K c ay y ∧ PV K c Q (f ax ay h)
def oMN (K : Fg) (f : List AV → Mi.M AV) : List V → Hp → VK → Prop := fun xs H Q => ∃ (c : Cn) (h : AH) (as : List AV), c.H = H ∧ RepH K c h ∧ RepL K c as xs ∧ PV K c Q (f as h)
/-- an operation raises nothing -/
def Nx1 (f : AV → Mi.M AV) : Prop := ∀ x h e h', f x h ≠ .ex e h'
def Nx2 (f : AV → AV → Mi.M AV) : Prop := ∀ x y h e h', f x y h ≠ .ex e h'
def NxN (f : List AV → Mi.M AV) : Prop := ∀ xs h e h', f xs h ≠ .ex e h'

section
variable {X : Cx}
/-- two ints -/
theorem op_ints {F : Value → Value → Sem Value} {r : R2} {f : AV → AV → Mi.M AV} (ho : OpR X F r) (hf : ∀ ax ay h, (∃ i j, ax = .int i ∧ ay = .int j) ∨ f ax ay h = .no)
    (hg : ∀ (i j : Int) (c : Cn) (h : AH) (Q : VK), RepH X.K c h → PV X.K c Q (f (.int i) (.int j) h) → r (.int i) (.int j) c.H Q) : OpR X F (oM2 X.K f) := by
  intro pins s σ H x y v u Q I rx ry ⟨c, h, ax, ay, e, rh, r1, r2, q⟩
  subst e
  rcases hf ax ay h with ⟨i, j, rfl, rfl⟩ | z
  · rw [rep_int] at r1 r2
    subst r1 r2
    exact ho pins s σ _ _ _ v u Q I rx ry (hg i j c h Q rh q)
  · rw [z] at q
    exact q.elim
theorem op_addM : OpR X (binaryOp .Add) (oM2 X.K Mi.oAdd) := by
  intro pins s σ H x y v u Q I rx ry ⟨c, h, ax, ay, e, rh, r1, r2, q⟩
  subst e
  unfold Mi.oAdd at q
  split at q
  · rw [rep_int] at r1 r2
    subst r1 r2
    exact op_add pins s σ _ _ _ v u Q I rx ry ⟨_, _, rfl, rfl, q.here rh (by rw [rep_int])⟩
  · rw [rep_str] at r1 r2
    subst r1 r2
    split at q
    · rename_i hl
      refine op_add_str pins s σ _ _ _ v u Q I rx ry ⟨_, _, rfl, rfl, by rw [str_len, str_len, line_eq]; exact hl, ?_⟩
      rw [str_app]
      exact q.here rh (by rw [rep_str])
    · exact q.elim
  · rw [rep_tup] at r1 r2
    obtain ⟨a, vs, rfl, h1, l1⟩ := r1
    obtain ⟨b, ws, rfl, h2, l2⟩ := r2
    split at q
    · rename_i hl
      refine op_catA pins s σ _ _ _ v u Q I rx ry ⟨a, b, vs, ws, rfl, rfl, .inl (.inl h1), .inl (.inl h2), by rw [← l1.length, ← l2.length, line_eq]; exact hl, fun z => ?_, fun z1 z2 => ?_, fun z1 z2 p hp => ?_⟩
      · subst z
        have e := l1.length
        have e' := List.length_eq_zero_iff.mp e
        subst e'
        exact q.here rh (by rw [rep_tup]; exact ⟨b, ws, rfl, h2, l2⟩)
      · subst z2
        have e := l2.length
        have e' := List.length_eq_zero_iff.mp e
        subst e'
        rw [List.append_nil] at q
        exact q.here rh (by rw [rep_tup]; exact ⟨a, vs, rfl, h1, l1⟩)
      · exact q.tup rh (l1.append l2) hp
    · exact q.elim
  · split at q
    · rename_i xs ys e1 e2
      split at q
      · rename_i hl
        obtain ⟨a, vs, rfl, h1, l1⟩ := lst_at rh r1 e1
        obtain ⟨b, ws, rfl, h2, l2⟩ := lst_at rh r2 e2
        exact op_cat pins s σ _ _ _ v u Q I rx ry ⟨a, b, vs, ws, rfl, rfl, h1, h2, by rw [← l1.length, ← l2.length, line_eq]; exact hl, fun p hp => q.lst rh (l1.append l2) hp⟩
      · exact q.elim
    · exact q.elim
theorem nx_add : Nx2 Mi.oAdd := by
  intro x y h e h' z
  unfold Mi.oAdd at z
  repeat (first | split at z | cases z)
theorem nx_int {f : AV → AV → Mi.M AV} (hf : ∀ ax ay h, (∃ i j, ax = .int i ∧ ay = .int j) ∨ f ax ay h = .no) (hg : ∀ i j h e h', f (.int i) (.int j) h ≠ .ex e h') : Nx2 f := by
  intro x y h e h' z
  rcases hf x y h with ⟨i, j, rfl, rfl⟩ | w
  · exact hg i j h e h' z
  · rw [w] at z
    cases z
theorem fi_sub : ∀ ax ay h, (∃ i j, ax = .int i ∧ ay = .int j) ∨ Mi.oSub ax ay h = .no := fun ax ay h => by unfold Mi.oSub; split <;> simp
theorem fi_fdiv : ∀ ax ay h, (∃ i j, ax = .int i ∧ ay = .int j) ∨ Mi.oFdiv ax ay h = .no := fun ax ay h => by unfold Mi.oFdiv; split <;> simp
theorem fi_mod : ∀ ax ay h, (∃ i j, ax = .int i ∧ ay = .int j) ∨ Mi.oMod ax ay h = .no := fun ax ay h => by unfold Mi.oMod; split <;> simp
theorem fi_pow : ∀ ax ay h, (∃ i j, ax = .int i ∧ ay = .int j) ∨ Mi.oPow ax ay h = .no := fun ax ay h => by unfold Mi.oPow; split <;> simp
theorem fi_shl : ∀ ax ay h, (∃ i j, ax = .int i ∧ ay = .int j) ∨ Mi.oShl ax ay h = .no := fun ax ay h => by unfold Mi.oShl; split <;> simp
theorem fi_lt : ∀ ax ay h, (∃ i j, ax = .int i ∧ ay = .int j) ∨ Mi.oLt ax ay h = .no := fun ax ay h => by unfold Mi.oLt; split <;> simp
theorem fi_le : ∀ ax ay h, (∃ i j, ax = .int i ∧ ay = .int j) ∨ Mi.oLe ax ay h = .no := fun ax ay h => by unfold Mi.oLe; split <;> simp
theorem fi_gt : ∀ ax ay h, (∃ i j, ax = .int i ∧ ay = .int j) ∨ Mi.oGt ax ay h = .no := fun ax ay h => by unfold Mi.oGt; split <;> simp
theorem fi_ge : ∀ ax ay h, (∃ i j, ax = .int i ∧ ay = .int j) ∨ Mi.oGe ax ay h = .no := fun ax ay h => by unfold Mi.oGe; split <;> simp
theorem op_subM : OpR X (binaryOp .Sub) (oM2 X.K Mi.oSub) := op_ints op_sub fi_sub fun i j c h Q rh q => ⟨i, j, rfl, rfl, PV.here q rh (by rw [rep_int])⟩
theorem mul_case {K : Fg} {c : Cn} {h : AH} {Q : VK} {i j : Int} (rh : RepH K c h) (q : PV K c Q (Mi.oMul (.int i) (.int j) h)) : rI CMul (fun i j => .int (i * j)) (.int i) (.int j) c.H Q := by
  unfold Mi.oMul at q
  dsimp only at q
  split at q
  · rename_i hz
    exact ⟨i, j, rfl, rfl, hz, q.here rh (by rw [rep_int])⟩
  · exact q.elim
theorem rep_fold (c : Nat) : ∀ (n : Nat) (a : List Nat), (List.replicate n #[c]).foldl (· ++ ·) a.toArray = (a ++ List.replicate n c).toArray
  | 0, a => by simp
  | n + 1, a => by
    rw [List.replicate_succ, List.foldl_cons]
    have : a.toArray ++ #[c] = (a ++ [c]).toArray := by simp
    rw [this, rep_fold c n (a ++ [c]), List.replicate_succ]
    simp
theorem op_mulM : OpR X (binaryOp .Mult) (oM2 X.K Mi.oMul) := by
  intro pins s σ H x y v u Q I rx ry ⟨c, h, ax, ay, e, rh, r1, r2, q⟩
  subst e
  have q0 := q
  unfold Mi.oMul at q
  split at q
  · rename_i i j
    rw [rep_int] at r1 r2
    subst r1 r2
    exact op_mul pins s σ _ _ _ v u Q I rx ry (mul_case rh q0)
  · rename_i cc j
    rw [rep_str] at r1
    rw [rep_int] at r2
    subst r1 r2
    split at q
    · rename_i hj
      obtain ⟨t, rfl⟩ := rx
      obtain ⟨t2, rfl⟩ := ry
      have hlen : (⟨[cc].toArray⟩ : Str).length = 1 := by simp [Str.length]
      have h1 : ¬ j < 1 := by omega
      have h2 : (j == 1 || (⟨[cc].toArray⟩ : Str).length == 0) = false := by
        rw [hlen]
        simp
        omega
      have hf : (List.replicate j.toNat (⟨[cc].toArray⟩ : Str).cps).foldl (· ++ ·) #[] = (List.replicate j.toNat cc).toArray := by
        have := rep_fold cc j.toNat []
        simpa using this
      refine PySem.P.mul_str ?_ (fun _ _ => ?_) (fun _ _ => ?_) ?_
      · rw [decide_eq_false (by omega), decide_eq_false (by omega)]
        rfl
      · rw [hlen]
        have : (2 ^ 63 - 1 : Int) / j ≥ 1 := by
          have : (1 : Int) * j ≤ 2 ^ 63 - 1 := by omega
          exact (Int.le_ediv_iff_mul_le (by omega)).mpr this
        omega
      · rw [hlen]
        unfold Builtin.Str.tooLong
        rw [sizeLine_eq]
        exact decide_eq_false (by omega)
      · rw [if_neg h1, h2, hf]
        simp only [Bool.false_eq_true, if_false]
        refine ⟨?_, ⟨.str ⟨(List.replicate j.toNat cc).toArray⟩, _, I.tok _, ⟨_, rfl⟩, q.here rh (rep_str.mpr rfl)⟩⟩
        rw [sizeLine_eq]
        show (List.replicate j.toNat cc).toArray.size ≤ _
        rw [List.size_toArray, List.length_replicate]
        omega
    · exact q.elim
  · exact q.elim
theorem op_fdivM : OpR X (binaryOp .FloorDiv) (oM2 X.K Mi.oFdiv) := op_ints op_fdiv fi_fdiv fun i j c h Q rh q => by
  unfold Mi.oFdiv at q
  dsimp only at q
  split at q
  · rename_i hz
    exact ⟨i, j, rfl, rfl, hz, q.here rh (by rw [rep_int])⟩
  · exact q.elim
theorem op_modM : OpR X (binaryOp .Mod) (oM2 X.K Mi.oMod) := op_ints op_mod fi_mod fun i j c h Q rh q => by
  unfold Mi.oMod at q
  dsimp only at q
  split at q
  · rename_i hz
    exact ⟨i, j, rfl, rfl, hz, q.here rh (by rw [rep_int])⟩
  · exact q.elim
theorem op_powM : OpR X (binaryOp .Pow) (oM2 X.K Mi.oPow) := op_ints op_pow fi_pow fun i j c h Q rh q => by
  unfold Mi.oPow at q
  dsimp only at q
  split at q
  · rename_i hz
    exact ⟨i, j, rfl, rfl, hz, q.here rh (by rw [rep_int])⟩
  · exact q.elim
theorem op_shlM : OpR X (binaryOp .LShift) (oM2 X.K Mi.oShl) := op_ints op_shl fi_shl fun i j c h Q rh q => by
  unfold Mi.oShl at q
  dsimp only at q
  split at q
  · rename_i hz
    exact ⟨i, j, rfl, rfl, hz, q.here rh (by rw [rep_int])⟩
  · exact q.elim
theorem op_ltM : OpR X (compareOp .Lt) (oM2 X.K Mi.oLt) := op_ints op_lt fi_lt fun i j c h Q rh q => ⟨i, j, rfl, rfl, PV.here q rh (by rw [rep_bl])⟩
theorem op_leM : OpR X (compareOp .LtE) (oM2 X.K Mi.oLe) := op_ints op_le fi_le fun i j c h Q rh q => ⟨i, j, rfl, rfl, PV.here q rh (by rw [rep_bl])⟩
theorem op_gtM : OpR X (compareOp .Gt) (oM2 X.K Mi.oGt) := op_ints op_gt fi_gt fun i j c h Q rh q => ⟨i, j, rfl, rfl, PV.here q rh (by rw [rep_bl])⟩
theorem op_geM : OpR X (compareOp .GtE) (oM2 X.K Mi.oGe) := op_ints op_ge fi_ge fun i j c h Q rh q => ⟨i, j, rfl, rfl, PV.here q rh (by rw [rep_bl])⟩
theorem nx_sub : Nx2 Mi.oSub := nx_int fi_sub fun i j h e h' z => by cases z
theorem nx_lt : Nx2 Mi.oLt := nx_int fi_lt fun i j h e h' z => by cases z
theorem nx_le : Nx2 Mi.oLe := nx_int fi_le fun i j h e h' z => by cases z
theorem nx_gt : Nx2 Mi.oGt := nx_int fi_gt fun i j h e h' z => by cases z
theorem nx_ge : Nx2 Mi.oGe := nx_int fi_ge fun i j h e h' z => by cases z
theorem nx_mul : Nx2 Mi.oMul := by
  intro x y h e h' z
  unfold Mi.oMul at z
  repeat (first | split at z | cases z)
theorem nx_fdiv : Nx2 Mi.oFdiv := nx_int fi_fdiv fun i j h e h' z => by unfold Mi.oFdiv at z; dsimp only at z; split at z <;> cases z
theorem nx_mod : Nx2 Mi.oMod := nx_int fi_mod fun i j h e h' z => by unfold Mi.oMod at z; dsimp only at z; split at z <;> cases z
theorem nx_pow : Nx2 Mi.oPow := nx_int fi_pow fun i j h e h' z => by unfold Mi.oPow at z; dsimp only at z; split at z <;> cases z
theorem nx_shl : Nx2 Mi.oShl := nx_int fi_shl fun i j h e h' z => by unfold Mi.oShl at z; dsimp only at z; split at z <;> cases z
/-- += -= of a name -/
theorem iop_addM : OpR X (inplaceOp .Add) (oM2 X.K Mi.oIadd) := by
  intro pins s σ H x y v u Q I rx ry ⟨c, h, ax, ay, e, rh, r1, r2, q⟩
  subst e
  unfold Mi.oIadd at q
  split at q
  · rw [rep_int] at r1 r2
    subst r1 r2
    exact iop_add pins s σ _ _ _ v u Q I rx ry ⟨_, _, rfl, rfl, q.here rh (by rw [rep_int])⟩
  · rw [rep_str] at r1 r2
    subst r1 r2
    split at q
    · rename_i hl
      refine iop_add_str pins s σ _ _ _ v u Q I rx ry ⟨_, _, rfl, rfl, by rw [str_len, str_len, line_eq]; exact hl, ?_⟩
      rw [str_app]
      exact q.here rh (by rw [rep_str])
    · exact q.elim
  · exact q.elim
theorem nx_iadd : Nx2 Mi.oIadd := by
  intro x y h e h' z
  unfold Mi.oIadd at z
  repeat (first | split at z | cases z)
theorem iop_subM : OpR X (inplaceOp .Sub) (oM2 X.K Mi.oSub) := op_ints iop_sub fi_sub fun i j c h Q rh q => ⟨i, j, rfl, rfl, PV.here q rh (by rw [rep_int])⟩
theorem un_negM : UnR X (unaryOp .USub) (oM1 X.K Mi.oNeg) := by
  intro pins s σ H x v Q I rx ⟨c, h, ax, e, rh, r1, q⟩
  subst e
  unfold Mi.oNeg at q
  split at q
  · rw [rep_int] at r1
    subst r1
    exact un_neg pins s σ _ _ v Q I rx ⟨_, rfl, q.here rh (by rw [rep_int])⟩
  · exact q.elim
theorem nx_neg : Nx1 Mi.oNeg := by
  intro x h e h' z
  unfold Mi.oNeg at z
  repeat (first | split at z | cases z)
end

/-! ### data -/
mutual
def pd : AV → PyData
  | .non => .none
  | .bl b => .bool b
  | .int i => .int i
  | .str s => .str ⟨s.toArray⟩
  | .tup xs => .tuple (pds xs)
  | .lst xs => .list (pds xs)
  | .scr _ _ => .none
  | .cel _ => .none
  | .xcp _ _ _ => .none
def pds : List AV → List PyData
  | [] => []
  | x :: xs => pd x :: pds xs
end
theorem b2i_eq (b : Bool) : Mi.b2i b = if b then 1 else 0 := rfl
theorem str_beq (s t : List Nat) : ((⟨s.toArray⟩ : Str) == ⟨t.toArray⟩) = (s == t) := by
  rw [Bool.eq_iff_iff]
  simp
mutual
theorem pd_eqv : ∀ (x y : AV) (d e : Nat), x.fits d = true → y.fits e = true → PyData.eqv (pd x) (pd y) = x.eqv y
  | .non, y, _, _, _, hy => by cases y <;> simp [pd, PyData.eqv, AV.eqv, AV.fits] at hy ⊢
  | .bl b, y, _, _, _, hy => by cases y <;> simp [pd, PyData.eqv, AV.eqv, AV.fits, Mi.b2i] at hy ⊢
  | .int i, y, _, _, _, hy => by cases y <;> simp [pd, PyData.eqv, AV.eqv, AV.fits, Mi.b2i] at hy ⊢
  | .str s, y, _, _, _, hy => by
    cases y with
    | str t => simp only [pd, PyData.eqv, AV.eqv]; exact str_beq s t
    | _ => simp [pd, PyData.eqv, AV.eqv, AV.fits] at hy ⊢
  | .tup xs, y, 0, _, hx, _ => by simp [AV.fits] at hx
  | .tup xs, y, d + 1, 0, hx, hy => by cases y <;> simp [pd, PyData.eqv, AV.eqv, AV.fits] at hy ⊢
  | .tup xs, y, d + 1, e + 1, hx, hy => by
    cases y with
    | tup ys =>
      simp only [pd, PyData.eqv, AV.eqv]
      exact pds_eqv xs ys d e (by simpa [AV.fits] using hx) (by simpa [AV.fits] using hy)
    | _ => simp [pd, PyData.eqv, AV.eqv, AV.fits] at hy ⊢
  | .lst xs, y, 0, _, hx, _ => by simp [AV.fits] at hx
  | .lst xs, y, d + 1, 0, hx, hy => by cases y <;> simp [pd, PyData.eqv, AV.eqv, AV.fits] at hy ⊢
  | .lst xs, y, d + 1, e + 1, hx, hy => by
    cases y with
    | lst ys =>
      simp only [pd, PyData.eqv, AV.eqv]
      exact pds_eqv xs ys d e (by simpa [AV.fits] using hx) (by simpa [AV.fits] using hy)
    | _ => simp [pd, PyData.eqv, AV.eqv, AV.fits] at hy ⊢
  | .scr _ _, _, d, _, hx, _ => by cases d <;> simp [AV.fits] at hx
  | .cel n, _, d, _, hx, _ => by cases d <;> simp [AV.fits] at hx
  | .xcp _ _ _, _, d, _, hx, _ => by cases d <;> simp [AV.fits] at hx
theorem pds_eqv : ∀ (xs ys : List AV) (d e : Nat), AV.fitss d xs = true → AV.fitss e ys = true → PyData.eqvAll (pds xs) (pds ys) = AV.eqvs xs ys
  | [], [], _, _, _, _ => by simp [pds, PyData.eqvAll, AV.eqvs]
  | [], _ :: _, _, _, _, _ => by simp [pds, PyData.eqvAll, AV.eqvs]
  | _ :: _, [], _, _, _, _ => by simp [pds, PyData.eqvAll, AV.eqvs]
  | x :: xs, y :: ys, d, e, hx, hy => by
    simp only [AV.fitss, Bool.and_eq_true] at hx hy
    simp only [pds, PyData.eqvAll, AV.eqvs, pd_eqv x y d e hx.1 hy.1, pds_eqv xs ys d e hx.2 hy.2]
end
mutual
theorem pd_depth : ∀ (x : AV) (d : Nat), x.fits d = true → (pd x).depth ≤ d
  | .non, _, _ => by simp [pd, PyData.depth]
  | .bl _, _, _ => by simp [pd, PyData.depth]
  | .int _, _, _ => by simp [pd, PyData.depth]
  | .str _, _, _ => by simp [pd, PyData.depth]
  | .tup xs, 0, h => by simp [AV.fits] at h
  | .tup xs, d + 1, h => by
    have := pds_depth xs d (by simpa [AV.fits] using h)
    simp only [pd, PyData.depth]
    omega
  | .lst xs, 0, h => by simp [AV.fits] at h
  | .lst xs, d + 1, h => by
    have := pds_depth xs d (by simpa [AV.fits] using h)
    simp only [pd, PyData.depth]
    omega
  | .scr _ _, d, h => by cases d <;> simp [AV.fits] at h
  | .cel _, d, h => by cases d <;> simp [AV.fits] at h
  | .xcp _ _ _, d, h => by cases d <;> simp [AV.fits] at h
theorem pds_depth : ∀ (xs : List AV) (d : Nat), AV.fitss d xs = true → PyData.depthAll (pds xs) ≤ d
  | [], _, _ => by simp [pds, PyData.depthAll]
  | x :: xs, d, h => by
    simp only [AV.fitss, Bool.and_eq_true] at h
    have h1 := pd_depth x d h.1
    have h2 := pds_depth xs d h.2
    simp only [pds, PyData.depthAll]
    omega
end
theorem strOk_of {s : List Nat} (h : s.all (· < 1114112) = true) : PyData.strOk ⟨s.toArray⟩ = true := by
  unfold PyData.strOk
  simpa using h
mutual
theorem pd_can : ∀ (x : AV) (d : Nat), x.fits d = true → (pd x).canLay0 = true
  | .non, _, _ => by simp [pd, PyData.canLay0]
  | .bl _, _, _ => by simp [pd, PyData.canLay0]
  | .int _, _, _ => by simp [pd, PyData.canLay0]
  | .str _, _, h => by
    simp only [pd, PyData.canLay0]
    exact strOk_of (by simpa [AV.fits] using h)
  | .tup xs, 0, h => by simp [AV.fits] at h
  | .tup xs, d + 1, h => by
    simp only [pd, PyData.canLay0]
    exact pds_can xs d (by simpa [AV.fits] using h)
  | .lst xs, 0, h => by simp [AV.fits] at h
  | .lst xs, d + 1, h => by
    simp only [pd, PyData.canLay0]
    exact pds_can xs d (by simpa [AV.fits] using h)
  | .scr _ _, d, h => by cases d <;> simp [AV.fits] at h
  | .cel _, d, h => by cases d <;> simp [AV.fits] at h
  | .xcp _ _ _, d, h => by cases d <;> simp [AV.fits] at h
theorem pds_can : ∀ (xs : List AV) (d : Nat), AV.fitss d xs = true → PyData.canLayAll0 (pds xs) = true
  | [], _, _ => by simp [pds, PyData.canLayAll0]
  | x :: xs, d, h => by
    simp only [AV.fitss, Bool.and_eq_true] at h
    simp only [pds, PyData.canLayAll0, Bool.and_eq_true]
    exact ⟨pd_can x d h.1, pds_can xs d h.2⟩
end
theorem pd_shaped {x : AV} (h : x.fits 60 = true) : SeqAt.shaped (pd x) = true := by
  unfold SeqAt.shaped
  rw [Bool.and_eq_true]
  exact ⟨pd_can x 60 h, decide_eq_true (Nat.le_trans (pd_depth x 60 h) (by decide))⟩
mutual
theorem rep_dp {K : Fg} {c : Cn} : ∀ (x : AV) (d : Nat) {v : V}, x.fits d = true → Rep K c x v → Dp K c.H v (pd x)
  | .non, _, _, _, r => by rw [rep_non] at r; subst r; exact .non
  | .bl b, _, _, _, r => by rw [rep_bl] at r; subst r; exact .bl b
  | .int i, _, _, _, r => by rw [rep_int] at r; subst r; exact .int i
  | .str s, _, _, _, r => by rw [rep_str] at r; subst r; exact .str _
  | .tup xs, 0, _, h, _ => by simp [AV.fits] at h
  | .tup xs, d + 1, _, h, r => by
    rw [rep_tup] at r
    obtain ⟨a, vs, rfl, h1, h2⟩ := r
    exact .tup (.inl (.inl h1)) (rep_dps xs d (by simpa [AV.fits] using h) h2)
  | .lst xs, 0, _, h, _ => by simp [AV.fits] at h
  | .lst xs, d + 1, _, h, r => by
    rw [rep_lst] at r
    obtain ⟨a, vs, rfl, h1, h2⟩ := r
    exact .lst h1.sq (rep_dps xs d (by simpa [AV.fits] using h) h2)
  | .scr _ _, d, _, h, _ => by cases d <;> simp [AV.fits] at h
  | .cel _, d, _, h, _ => by cases d <;> simp [AV.fits] at h
  | .xcp _ _ _, d, _, h, _ => by cases d <;> simp [AV.fits] at h
theorem rep_dps {K : Fg} {c : Cn} : ∀ (xs : List AV) (d : Nat) {vs : List V}, AV.fitss d xs = true → RepL K c xs vs → DpAll K c.H vs (pds xs)
  | [], _, _, _, r => by rw [repL_nil] at r; subst r; exact .nil
  | x :: xs, d, _, h, r => by
    simp only [AV.fitss, Bool.and_eq_true] at h
    rw [repL_cons] at r
    obtain ⟨v, w, rfl, h1, h2⟩ := r
    exact .cons (rep_dp x d h.1 h1) (rep_dps xs d h.2 h2)
end
theorem flat_dp {K : Fg} {c : Cn} {h : AH} {x : AV} {v : V} (rh : RepH K c h) (r : Rep K c x v) (hf : (Mi.flatten h x).fits 60 = true) : Dp K c.H v (pd (Mi.flatten h x)) := by
  unfold Mi.flatten at hf ⊢
  split at hf
  · rename_i n
    split at hf
    · rename_i xs hn
      rw [rep_cel] at r
      obtain ⟨p, rfl, h2⟩ := r
      obtain ⟨vs, h3, h4⟩ := cell_lst rh h2 hn
      exact .lst (.inl (.inl h3)) (rep_dps xs 59 (by simpa [AV.fits] using hf) h4)
    · simp [AV.fits] at hf
  · exact rep_dp _ 60 hf r
section
variable {X : Cx}
theorem op_eqM (hu : X.A.units + 64 < cLine) : OpR X (compareOp .Eq) (oM2 X.K Mi.oEq) := by
  intro pins s σ H x y v u Q I rx ry ⟨c, h, ax, ay, e, rh, r1, r2, q⟩
  subst e
  unfold Mi.oEq at q
  split at q
  · rename_i a b
    rw [rep_str] at r1 r2
    subst r1 r2
    refine op_eq pins s σ _ _ _ v u Q I rx ry ⟨rfl, ?_⟩
    have e : decide (V.str ⟨a.toArray⟩ = V.str ⟨b.toArray⟩) = (a == b) := dec_str.trans (str_beq a b)
    rw [e]
    exact q.here rh (by rw [rep_bl])
  · split at q
    · rename_i hf
      simp only [Bool.and_eq_true] at hf
      refine op_eqD hu pins s σ _ x y v u Q I rx ry ⟨_, _, flat_dp rh r1 hf.1, flat_dp rh r2 hf.2, pd_shaped hf.1, pd_shaped hf.2, ?_⟩
      rw [pd_eqv _ _ 60 60 hf.1 hf.2]
      exact q.here rh (by rw [rep_bl])
    · exact q.elim
theorem op_neM (hu : X.A.units + 64 < cLine) : OpR X (compareOp .NotEq) (oM2 X.K Mi.oNe) := by
  intro pins s σ H x y v u Q I rx ry ⟨c, h, ax, ay, e, rh, r1, r2, q⟩
  subst e
  unfold Mi.oNe at q
  split at q
  · rename_i a b
    rw [rep_str] at r1 r2
    subst r1 r2
    refine op_ne pins s σ _ _ _ v u Q I rx ry ⟨rfl, ?_⟩
    have e : decide (V.str ⟨a.toArray⟩ = V.str ⟨b.toArray⟩) = (a == b) := dec_str.trans (str_beq a b)
    rw [e]
    exact q.here rh (by rw [rep_bl])
  · split at q
    · rename_i hf
      simp only [Bool.and_eq_true] at hf
      refine op_neD hu pins s σ _ x y v u Q I rx ry ⟨_, _, flat_dp rh r1 hf.1, flat_dp rh r2 hf.2, pd_shaped hf.1, pd_shaped hf.2, ?_⟩
      rw [pd_eqv _ _ 60 60 hf.1 hf.2]
      exact q.here rh (by rw [rep_bl])
    · exact q.elim
theorem nx_eq : Nx2 Mi.oEq := by
  intro x y h e h' z
  unfold Mi.oEq at z
  repeat (first | split at z | cases z)
theorem nx_ne : Nx2 Mi.oNe := by
  intro x y h e h' z
  unfold Mi.oNe at z
  repeat (first | split at z | cases z)
/-- is None -/
theorem rep_isN {K : Fg} {c : Cn} {x : AV} {v : V} (r : Rep K c x v) : decide (v = .non) = x.isN := by
  cases x with
  | non => rw [rep_non] at r; subst r; rfl
  | bl b => rw [rep_bl] at r; subst r; rfl
  | int i => rw [rep_int] at r; subst r; rfl
  | str s => rw [rep_str] at r; subst r; rfl
  | tup xs => rw [rep_tup] at r; obtain ⟨a, _, rfl, _⟩ := r; rfl
  | lst xs => rw [rep_lst] at r; obtain ⟨a, _, rfl, _⟩ := r; rfl
  | scr t xs =>
    cases t with
    | false => rw [rep_scr] at r; obtain ⟨a, _, rfl, _⟩ := r; rfl
    | true => rw [rep_scrT] at r; obtain ⟨a, _, rfl, _⟩ := r; rfl
  | cel n => rw [rep_cel] at r; obtain ⟨a, rfl, _⟩ := r; rfl
  | xcp => rw [rep_xcp] at r; exact r.elim
theorem oIsN_eq (x : AV) (h : AH) : Mi.oIsN x h = .ok (.bl x.isN) h := rfl
theorem oNotN_eq (x : AV) (h : AH) : Mi.oNotN x h = .ok (.bl (!x.isN)) h := rfl
theorem nx_isN : Nx1 Mi.oIsN := fun x h e h' z => by rw [oIsN_eq] at z; cases z
theorem nx_notN : Nx1 Mi.oNotN := fun x h e h' z => by rw [oNotN_eq] at z; cases z

/-! ### places -/
theorem atN_eq (n : Nat) (i : Int) : Mi.atN n i = ixN n i := rfl
theorem atI_eq {α : Type} (xs : List α) (i : Int) : Mi.atI xs i = L2.atI xs i := rfl
theorem RepL.atI {K : Fg} {c : Cn} {xs : List AV} {vs : List V} {i : Int} {x : AV} (r : RepL K c xs vs) (e : Mi.atI xs i = some x) : ∃ v, L2.atI vs i = some v ∧ Rep K c x v := by
  rw [atI_eq] at e
  unfold L2.atI at e ⊢
  rw [r.length] at e
  cases q : ixN vs.length i with
  | none => rw [q] at e; cases e
  | some j =>
    rw [q] at e
    exact r.get e
theorem sIx_eq (n d : Nat) (o : Option Int) : Mi.sIx n d o = HT.sIx n d o := by cases o <;> rfl
theorem RepL.cut {K : Fg} {c : Cn} {xs : List AV} {vs : List V} (r : RepL K c xs vs) (lo hi : Option Int) : RepL K c (Mi.cut xs lo hi) (cutV vs lo hi) := by
  unfold Mi.cut cutV
  rw [sIx_eq, sIx_eq, r.length]
  exact (r.drop _).take _
/-- dicts -/
theorem akey_v {K : Fg} {c : Cn} {x : AV} {v : V} {k : Key} (r : Rep K c x v) (e : akey x = some k) : v = kV k := by
  cases x with
  | int i => cases e; rw [rep_int] at r; exact r
  | str s => cases e; rw [rep_str] at r; exact r
  | _ => cases e
theorem akeys_v {K : Fg} {c : Cn} : ∀ {xs : List AV} {vs : List V} {ks : List Key}, RepL K c xs vs → akeys xs = some ks → vs = ks.map kV
  | [], _, _, r, e => by cases e; rw [repL_nil] at r; exact r
  | x :: xs, _, ks, r, e => by
    rw [repL_cons] at r
    obtain ⟨v, w, rfl, h1, h2⟩ := r
    unfold akeys at e
    split at e
    · rename_i k ks' e1 e2
      cases e
      rw [akey_v h1 e1, akeys_v h2 e2]
      rfl
    · cases e
theorem akey_eqv {a b : AV} {k l : Key} (h : akey a = some k) (g : akey b = some l) : a.eqv b = decide (k = l) := by
  cases a with
  | int i =>
    cases h
    cases b with
    | int j => cases g; simp only [AV.eqv]; rw [key_ll]
    | str t => cases g; simp only [AV.eqv]; rw [key_lr]
    | _ => cases g
  | str s =>
    cases h
    cases b with
    | int j => cases g; simp only [AV.eqv]; rw [key_rl]
    | str t =>
      cases g
      simp only [AV.eqv]
      rw [key_rr, ← str_beq, Bool.beq_eq_decide_eq]
    | _ => cases g
  | _ => cases h
theorem akeys_eqv : ∀ {a b : List AV} {k l : List Key}, akeys a = some k → akeys b = some l → AV.eqvs a b = decide (k = l)
  | [], [], _, _, h, g => by cases h; cases g; simp [AV.eqvs]
  | [], y :: b, _, _, h, g => by
    cases h
    unfold akeys at g
    split at g
    · cases g; simp [AV.eqvs]
    · cases g
  | x :: a, [], _, _, h, g => by
    cases g
    unfold akeys at h
    split at h
    · cases h; simp [AV.eqvs]
    · cases h
  | x :: a, y :: b, _, _, h, g => by
    unfold akeys at h g
    split at h
    · rename_i k1 k2 e1 e2
      split at g
      · rename_i l1 l2 f1 f2
        cases h
        cases g
        simp only [AV.eqvs]
        rw [akey_eqv e1 f1, akeys_eqv e2 f2, Bool.eq_iff_iff]
        simp
      · cases g
    · cases h
theorem akeyT_eqv {a b : AV} {k l : List Key} (h : akeyT a = some k) (g : akeyT b = some l) : a.eqv b = decide (k = l) := by
  cases a with
  | tup xs =>
    cases b with
    | tup ys => simp only [AV.eqv]; exact akeys_eqv h g
    | _ => cases g
  | _ => cases h
theorem akey_of {x : AV} (h : x.key1 = true) : ∃ k, akey x = some k := by
  cases x with
  | int i => exact ⟨_, rfl⟩
  | str s => exact ⟨_, rfl⟩
  | _ => cases h
theorem akeys_of : ∀ {xs : List AV}, xs.all AV.key1 = true → ∃ ks, akeys xs = some ks
  | [], _ => ⟨_, rfl⟩
  | x :: xs, h => by
    rw [List.all_cons, Bool.and_eq_true] at h
    obtain ⟨k, e⟩ := akey_of h.1
    obtain ⟨ks, e'⟩ := akeys_of h.2
    exact ⟨k :: ks, by unfold akeys; rw [e, e']⟩
theorem akeyT_of {x : AV} (h : x.keyT = true) : ∃ xs ks, x = .tup xs ∧ akeys xs = some ks := by
  cases x with
  | tup xs =>
    obtain ⟨ks, e⟩ := akeys_of (xs := xs) h
    exact ⟨xs, ks, rfl, e⟩
  | _ => cases h
section
variable {κ : Type} [DecidableEq κ] {key : AV → Option κ} {K : Fg} {c : Cn}
theorem RepKV.length : ∀ {kvs : List (AV × AV)} {ks : List (κ × V)}, RepKV key K c kvs ks → kvs.length = ks.length
  | [], _, h => by cases h; rfl
  | (a, b) :: r, _, h => by
    obtain ⟨k, v, s, rfl, _, _, h4⟩ := h
    simp [RepKV.length h4]
theorem RepKV.look (hk : ∀ {a b : AV} {k l : κ}, key a = some k → key b = some l → a.eqv b = decide (k = l)) {x : AV} {k : κ} (hx : key x = some k) : ∀ {kvs : List (AV × AV)} {ks : List (κ × V)}, RepKV key K c kvs ks →
    (Mi.look kvs x = none ∧ valV ks k = none) ∨ ∃ a v, Mi.look kvs x = some a ∧ valV ks k = some v ∧ Rep K c a v
  | [], _, h => by cases h; exact .inl ⟨rfl, rfl⟩
  | (a, b) :: r, _, h => by
    obtain ⟨k', v, s, rfl, h2, h3, h4⟩ := h
    have e : a.eqv x = decide (k' = k) := hk h2 hx
    unfold Mi.look
    by_cases q : k' = k
    · refine .inr ⟨b, v, ?_, valV_pos q, h3⟩
      rw [List.find?_cons, e, decide_eq_true q]
      rfl
    · rw [valV_neg q, List.find?_cons, e, decide_eq_false q]
      exact RepKV.look hk hx h4
theorem RepKV.any (hk : ∀ {a b : AV} {k l : κ}, key a = some k → key b = some l → a.eqv b = decide (k = l)) {x : AV} {k : κ} (hx : key x = some k) : ∀ {kvs : List (AV × AV)} {ks : List (κ × V)}, RepKV key K c kvs ks →
    (kvs.any fun kv => kv.1.eqv x) = ks.any fun kv => decide (kv.1 = k)
  | [], _, h => by cases h; rfl
  | (a, b) :: r, _, h => by
    obtain ⟨k', v, s, rfl, h2, h3, h4⟩ := h
    rw [List.any_cons, List.any_cons, RepKV.any hk hx h4, hk h2 hx]
theorem RepKV.repl (hk : ∀ {a b : AV} {k l : κ}, key a = some k → key b = some l → a.eqv b = decide (k = l)) {x y : AV} {k : κ} {v : V} (hx : key x = some k) (ry : Rep K c y v) : ∀ {kvs : List (AV × AV)} {ks : List (κ × V)}, RepKV key K c kvs ks →
    RepKV key K c (kvs.map fun kv => if kv.1.eqv x then (kv.1, y) else kv) (ks.map fun kv => if kv.1 = k then (kv.1, v) else kv)
  | [], _, h => by cases h; rfl
  | (a, b) :: r, _, h => by
    obtain ⟨k', w, s, rfl, h2, h3, h4⟩ := h
    have ih := RepKV.repl hk hx ry h4
    rw [List.map_cons, List.map_cons]
    have e : a.eqv x = decide (k' = k) := hk h2 hx
    by_cases q : k' = k
    · simp only [e, q, decide_true, if_true]
      exact ⟨k', v, _, by rw [q], h2, ry, ih⟩
    · simp only [e, q, decide_false, if_false]
      exact ⟨k', w, _, rfl, h2, h3, ih⟩
theorem RepKV.snoc {x y : AV} {k : κ} {v : V} (hx : key x = some k) (ry : Rep K c y v) : ∀ {kvs : List (AV × AV)} {ks : List (κ × V)}, RepKV key K c kvs ks → RepKV key K c (kvs ++ [(x, y)]) (ks ++ [(k, v)])
  | [], _, h => by cases h; exact ⟨k, v, [], rfl, hx, ry, rfl⟩
  | (a, b) :: r, _, h => by
    obtain ⟨k', w, s, rfl, h2, h3, h4⟩ := h
    exact ⟨k', w, _, rfl, h2, h3, RepKV.snoc hx ry h4⟩
theorem RepKV.put (hk : ∀ {a b : AV} {k l : κ}, key a = some k → key b = some l → a.eqv b = decide (k = l)) {x y : AV} {k : κ} {v : V} (hx : key x = some k) (ry : Rep K c y v) {kvs : List (AV × AV)} {ks : List (κ × V)} (h : RepKV key K c kvs ks) :
    RepKV key K c (Mi.put kvs x y) (putK ks k v) := by
  unfold Mi.put putK
  rw [RepKV.any hk hx h]
  split
  · exact h.repl hk hx ry
  · exact h.snoc hx ry
end
theorem dic_at {K : Fg} {c : Cn} {h : AH} {n : Nat} {t : Bool} {kvs : List (AV × AV)} {p : Addr} (rh : RepH K c h) (hp : c.ρ[n]? = some p) (hn : h[n]? = some (.dic t kvs)) : CellAt K c p (.dic t kvs) := rh.cell n p _ hp hn
/-- what the dict holds at a key -/
theorem dget_at {K : Fg} {c : Cn} {h : AH} {n : Nat} {t : Bool} {kvs : List (AV × AV)} {p : Addr} {x : AV} {y : V} (rh : RepH K c h) (hp : c.ρ[n]? = some p) (hn : h[n]? = some (.dic t kvs)) (hk : Mi.keyFor t x = true) (r : Rep K c x y) :
    (Mi.look kvs x = none ∧ DGet c.H p y none) ∨ ∃ a v, Mi.look kvs x = some a ∧ DGet c.H p y (some v) ∧ Rep K c a v := by
  have z := dic_at rh hp hn
  cases t with
  | false =>
    obtain ⟨ks, e, kv⟩ := z
    obtain ⟨k, ek⟩ := akey_of (x := x) hk
    rw [akey_v r ek]
    rcases kv.look akey_eqv ek with ⟨h1, h2⟩ | ⟨a, v, h1, h2, h3⟩
    · exact .inl ⟨h1, by rw [← h2]; exact DGet.k e⟩
    · exact .inr ⟨a, v, h1, by rw [← h2]; exact DGet.k e, h3⟩
  | true =>
    obtain ⟨ks, e, kv⟩ := z
    obtain ⟨xs, k, rfl, ek⟩ := akeyT_of (x := x) hk
    rw [rep_tup] at r
    obtain ⟨b, vs, rfl, hb, hv⟩ := r
    rw [akeys_v hv ek] at hb
    rcases kv.look akeyT_eqv (x := .tup xs) (k := k) ek with ⟨h1, h2⟩ | ⟨a, v, h1, h2, h3⟩
    · exact .inl ⟨h1, by rw [← h2]; exact DGet.t e hb⟩
    · exact .inr ⟨a, v, h1, by rw [← h2]; exact DGet.t e hb, h3⟩
section
variable {X : Cx}
theorem ix_dict (hu : X.A.units + 1 < cLine) : IxR X (fun x y H Q => ∃ a v, x = .ref a ∧ DGet H a y (some v) ∧ Q v H) := by
  intro value slice pins s σ H x y v u Q I rx ry h hs
  obtain ⟨a, w, rfl, g, q⟩ := h
  cases rx
  exact tail_any (dict_typeIs I g) PySem.F.slot_dict_getitem.lookup (d_getItem hu I g ry fun w' s' I' rw' => ⟨w, H, I', rw', q⟩) hs
theorem ix_M (hu : X.A.units + 1 < cLine) : IxR X (oM2 X.K Mi.oIx) := by
  intro value slice pins s σ H x y v u Q I rx ry ⟨c, h, ax, ay, e, rh, r1, r2, q⟩ hs
  subst e
  have seq : ∀ (xs : List AV) (vs : List V) (p : Addr) (i : Int), x = .ref p → (SqL X.K c.H p vs ∨ SqT X.K c.H p vs) → RepL X.K c xs vs → ay = .int i → PV X.K c Q (match Mi.atI xs i with | some v => .ok v h | none => .no) →
      wpAny (model X.prog X.w) X.A (subscriptTail value slice v u) (EP X pins σ Q) X.xe s := by
    intro xs vs p i ex hsq hl ei q0
    subst ex ei
    rw [rep_int] at r2
    subst r2
    split at q0
    · rename_i w e
      obtain ⟨z, h1, h2⟩ := hl.atI e
      rcases hsq with hsq | hsq
      · exact ix_list value slice pins s σ _ _ _ v u Q I rx ry ⟨p, vs, i, z, rfl, rfl, hsq, h1, q0.here rh h2⟩ hs
      · exact ix_tup value slice pins s σ _ _ _ v u Q I rx ry ⟨p, vs, i, z, rfl, rfl, hsq, h1, q0.here rh h2⟩ hs
    · exact q0.elim
  cases ax with
  | str t =>
    cases ay with
    | int i =>
      rw [rep_str] at r1
      rw [rep_int] at r2
      subst r1 r2
      unfold Mi.oIx at q
      dsimp only at q
      split at q
      · rename_i hl
        split at q
        · rename_i d e
          exact ix_str value slice pins s σ _ _ _ v u Q I rx ry ⟨_, i, d, rfl, rfl, by rw [str_len, line_eq]; exact hl, by rw [← atI_eq]; simpa using e, q.here rh (by rw [rep_str])⟩ hs
        · exact q.elim
      · exact q.elim
    | _ => exact q.elim
  | tup xs =>
    cases ay with
    | int i =>
      rw [rep_tup] at r1
      obtain ⟨p, vs, e1, e2, e3⟩ := r1
      exact seq xs vs p i e1 (.inr (.inl (.inl e2))) e3 rfl q
    | _ => exact q.elim
  | lst xs =>
    cases ay with
    | int i =>
      rw [rep_lst] at r1
      obtain ⟨p, vs, e1, e2, e3⟩ := r1
      exact seq xs vs p i e1 (.inl e2.sq) e3 rfl q
    | _ => exact q.elim
  | scr t xs =>
    cases ay with
    | int i =>
      obtain ⟨p, vs, e1, e2, e3⟩ := seq_at rh r1 (xs := xs) rfl
      exact seq xs vs p i e1 e2 e3 rfl q
    | _ => exact q.elim
  | cel n =>
    unfold Mi.oIx at q
    dsimp only at q
    rw [rep_cel] at r1
    obtain ⟨p, e1, e2⟩ := r1
    split at q
    · rename_i xs hn
      obtain ⟨vs, e3, e4⟩ := cell_lst rh e2 hn
      split at q
      · exact seq xs vs p _ e1 (.inl (.inl (.inl e3))) e4 rfl q
      · exact q.elim
    · rename_i t kvs hn
      split at q
      · rename_i hk
        rcases dget_at rh e2 hn hk r2 with ⟨h1, h2⟩ | ⟨a, w, h1, h2, h3⟩
        · rw [h1] at q
          exact q.elim
        · rw [h1] at q
          exact ix_dict hu value slice pins s σ _ _ _ v u Q I rx ry ⟨p, w, e1, h2, q.here rh h3⟩ hs
      · exact q.elim
    · exact q.elim
  | non => exact q.elim
  | bl b => exact q.elim
  | int i => exact q.elim
  | xcp => exact q.elim
theorem nx_ix : Nx2 Mi.oIx := by
  intro x y h e h' z
  unfold Mi.oIx at z
  repeat (first | split at z | cases z)
/-! ### slices, in -/
def oM3 (K : Fg) (f : AV → Option Int → Option Int → Mi.M AV) : V → Option Int → Option Int → Hp → VK → Prop := fun x lo hi H Q => ∃ (c : Cn) (h : AH) (ax : AV), c.H = H ∧ RepH K c h ∧ Rep K c ax x ∧ PV K c Q (f ax lo hi h)
theorem cut_whole {α : Type} {xs : List α} {lo hi : Option Int} (h1 : Mi.sIx xs.length 0 lo = 0) (h2 : Mi.sIx xs.length xs.length hi = xs.length) : Mi.cut xs lo hi = xs := by
  unfold Mi.cut
  rw [h1, h2]
  simp
theorem cutS_cut (s : List Nat) (lo hi : Option Int) : cutS ⟨s.toArray⟩ lo hi = ⟨(Mi.cut s lo hi).toArray⟩ := by
  unfold cutS Mi.cut
  rw [sIx_eq, sIx_eq, str_len]
theorem sl_M : SlR X (oM3 X.K Mi.oSl) := by
  intro pins s σ H x v vl vu lo hi sl Q I rx hs pl pu ⟨c, h, ax, e, rh, r1, q⟩
  subst e
  unfold Mi.oSl at q
  split at q
  · rw [rep_str] at r1
    subst r1
    split at q
    · rename_i hl
      refine sl_str pins s σ _ _ v vl vu lo hi sl Q I rx hs pl pu ⟨_, rfl, by rw [str_len, line_eq]; exact hl, ?_⟩
      rw [cutS_cut]
      exact q.here rh (by rw [rep_str])
    · exact q.elim
  · rename_i xs
    rw [rep_tup] at r1
    obtain ⟨p, vs, rfl, e2, e3⟩ := r1
    refine sl_tupA pins s σ _ _ v vl vu lo hi sl Q I rx hs pl pu ⟨p, vs, rfl, .inl (.inl e2), fun hw => ?_, fun hw p hp => ?_⟩
    · rw [← sIx_eq, ← sIx_eq, ← e3.length] at hw
      rw [cut_whole hw.1 hw.2] at q
      exact q.here rh (by rw [rep_tup]; exact ⟨p, vs, rfl, e2, e3⟩)
    · exact q.tup rh (e3.cut lo hi) hp
  · rename_i xs
    rw [rep_scr] at r1
    obtain ⟨p, vs, rfl, e2, e3⟩ := r1
    exact sl_list pins s σ _ _ v vl vu lo hi sl Q I rx hs pl pu ⟨p, vs, rfl, e2.sq, fun p hp => q.lst rh (e3.cut lo hi) hp⟩
  · split at q
    · rename_i xs e
      obtain ⟨p, vs, rfl, e2, e3⟩ := lst_at rh r1 e
      exact sl_list pins s σ _ _ v vl vu lo hi sl Q I rx hs pl pu ⟨p, vs, rfl, .inl (.inl e2), fun p hp => q.lst rh (e3.cut lo hi) hp⟩
    · exact q.elim
theorem rep_flat {K : Fg} {c : Cn} {x : AV} {v : V} (r : Rep K c x v) (h : x.flat = true) : flatV v = true := by
  cases x with
  | non => rw [rep_non] at r; subst r; rfl
  | bl b => rw [rep_bl] at r; subst r; rfl
  | int i => rw [rep_int] at r; subst r; rfl
  | str s => rw [rep_str] at r; subst r; rfl
  | _ => cases h
theorem rep_flats {K : Fg} {c : Cn} : ∀ {xs : List AV} {vs : List V}, RepL K c xs vs → xs.all AV.flat = true → vs.all flatV = true
  | [], _, r, _ => by rw [repL_nil] at r; subst r; rfl
  | x :: xs, _, r, h => by
    rw [repL_cons] at r
    obtain ⟨v, w, rfl, h1, h2⟩ := r
    rw [List.all_cons, Bool.and_eq_true] at h ⊢
    exact ⟨rep_flat h1 h.1, rep_flats h2 h.2⟩
theorem rep_eqV {K : Fg} {c : Cn} {x y : AV} {v w : V} (r : Rep K c x v) (g : Rep K c y w) (h : x.flat = true) (h' : y.flat = true) : eqV v w = x.eqv y := by
  cases x with
  | non => rw [rep_non] at r; subst r; cases y with
    | non => rw [rep_non] at g; subst g; rfl
    | bl b => rw [rep_bl] at g; subst g; rfl
    | int i => rw [rep_int] at g; subst g; rfl
    | str s => rw [rep_str] at g; subst g; rfl
    | _ => cases h'
  | bl b => rw [rep_bl] at r; subst r; cases y with
    | non => rw [rep_non] at g; subst g; rfl
    | bl b => rw [rep_bl] at g; subst g; rfl
    | int i => rw [rep_int] at g; subst g; cases b <;> simp [eqV, AV.eqv, Mi.b2i]
    | str s => rw [rep_str] at g; subst g; rfl
    | _ => cases h'
  | int i => rw [rep_int] at r; subst r; cases y with
    | non => rw [rep_non] at g; subst g; rfl
    | bl b => rw [rep_bl] at g; subst g; cases b <;> simp [eqV, AV.eqv, Mi.b2i]
    | int i => rw [rep_int] at g; subst g; rfl
    | str s => rw [rep_str] at g; subst g; rfl
    | _ => cases h'
  | str s => rw [rep_str] at r; subst r; cases y with
    | non => rw [rep_non] at g; subst g; rfl
    | bl b => rw [rep_bl] at g; subst g; rfl
    | int i => rw [rep_int] at g; subst g; rfl
    | str t => rw [rep_str] at g; subst g; simp only [eqV, AV.eqv]; exact str_beq s t
    | _ => cases h'
  | _ => cases h
theorem rep_inV {K : Fg} {c : Cn} {x : AV} {v : V} (r : Rep K c x v) (h : x.flat = true) : ∀ {ys : List AV} {ws : List V}, RepL K c ys ws → ys.all AV.flat = true → inV v ws = ys.any fun y => y.eqv x
  | [], _, g, _ => by rw [repL_nil] at g; subst g; rfl
  | y :: ys, _, g, h' => by
    rw [repL_cons] at g
    obtain ⟨w, ws, rfl, h1, h2⟩ := g
    rw [List.all_cons, Bool.and_eq_true] at h'
    show (eqV w v || inV v ws) = (y.eqv x || ys.any fun y => y.eqv x)
    rw [rep_eqV h1 r h'.1 h, rep_inV r h h2 h'.2]
/-- x in y, in terms of the answer -/
theorem in_cases {K : Fg} {c : Cn} {h : AH} {Q : VK} {ax ay : AV} {x y : V} (rh : RepH K c h) (r1 : Rep K c ax x) (r2 : Rep K c ay y) (q : PV K c Q (Mi.oIn ax ay h)) :
    ∃ b, Mi.oIn ax ay h = .ok (.bl b) h ∧ ((∃ (d : Nat) (z : Str), x = .str ⟨#[d]⟩ ∧ y = .str z ∧ b = decide (d ∈ z.cps.toList)) ∨
      (∃ p xs, y = .ref p ∧ (SqL K c.H p xs ∨ SqT K c.H p xs) ∧ flatV x = true ∧ xs.all flatV = true ∧ b = inV x xs) ∨ ∃ a o, y = .ref a ∧ DGet c.H a x o ∧ b = o.isSome) := by
  unfold Mi.oIn at q ⊢
  split at q
  · rename_i d t
    rw [rep_str] at r1 r2
    subst r1 r2
    exact ⟨_, rfl, .inl ⟨d, ⟨t.toArray⟩, rfl, rfl, by simp⟩⟩
  · rename_i ys
    split at q
    · rename_i hf
      rw [Bool.and_eq_true] at hf
      rw [rep_tup] at r2
      obtain ⟨p, vs, rfl, e2, e3⟩ := r2
      exact ⟨_, if_pos (by rw [Bool.and_eq_true]; exact hf), .inr (.inl ⟨p, vs, rfl, .inr (.inl (.inl e2)), rep_flat r1 hf.1, rep_flats e3 hf.2, (rep_inV r1 hf.1 e3 hf.2).symm⟩)⟩
    · exact q.elim
  · rename_i ys
    split at q
    · rename_i hf
      rw [Bool.and_eq_true] at hf
      rw [rep_lst] at r2
      obtain ⟨p, vs, rfl, e2, e3⟩ := r2
      exact ⟨_, if_pos (by rw [Bool.and_eq_true]; exact hf), .inr (.inl ⟨p, vs, rfl, .inl e2.sq, rep_flat r1 hf.1, rep_flats e3 hf.2, (rep_inV r1 hf.1 e3 hf.2).symm⟩)⟩
    · exact q.elim
  · rename_i t ys
    split at q
    · rename_i hf
      rw [Bool.and_eq_true] at hf
      cases t with
      | false =>
        obtain ⟨p, vs, rfl, e2, e3⟩ := rep_scr.mp r2
        exact ⟨_, if_pos (by rw [Bool.and_eq_true]; exact hf), .inr (.inl ⟨p, vs, rfl, .inl e2.sq, rep_flat r1 hf.1, rep_flats e3 hf.2, (rep_inV r1 hf.1 e3 hf.2).symm⟩)⟩
      | true =>
        obtain ⟨p, vs, rfl, e2, e3⟩ := rep_scrT.mp r2
        exact ⟨_, if_pos (by rw [Bool.and_eq_true]; exact hf), .inr (.inl ⟨p, vs, rfl, .inr (.inr e2), rep_flat r1 hf.1, rep_flats e3 hf.2, (rep_inV r1 hf.1 e3 hf.2).symm⟩)⟩
    · exact q.elim
  · rename_i n
    rw [rep_cel] at r2
    obtain ⟨p, rfl, e2⟩ := r2
    split at q
    · rename_i ys hn
      split at q
      · rename_i hf
        rw [Bool.and_eq_true] at hf
        obtain ⟨vs, e3, e4⟩ := cell_lst rh e2 hn
        refine ⟨_, ?_, .inr (.inl ⟨p, vs, rfl, .inl (.inl (.inl e3)), rep_flat r1 hf.1, rep_flats e4 hf.2, (rep_inV r1 hf.1 e4 hf.2).symm⟩)⟩
        rw [if_pos (by rw [Bool.and_eq_true]; exact hf)]
      · exact q.elim
    · rename_i t kvs hn
      split at q
      · rename_i hk
        rcases dget_at rh e2 hn hk r1 with ⟨h1, h2⟩ | ⟨a, w, h1, h2, h3⟩
        · refine ⟨_, if_pos hk, .inr (.inr ⟨p, none, rfl, h2, by rw [h1]; rfl⟩)⟩
        · refine ⟨_, if_pos hk, .inr (.inr ⟨p, some w, rfl, h2, by rw [h1]; rfl⟩)⟩
      · exact q.elim
    · exact q.elim
  · exact q.elim
theorem op_inM (hu : X.A.units + 1 < cLine) : OpR X (compareOp .In) (oM2 X.K Mi.oIn) := by
  intro pins s σ H x y v u Q I rx ry ⟨c, h, ax, ay, e, rh, r1, r2, q⟩
  subst e
  obtain ⟨b, e, hb⟩ := in_cases rh r1 r2 q
  rw [e] at q
  have q' : Q (.bl b) c.H := q.here rh (by rw [rep_bl])
  rcases hb with ⟨d, z, rfl, rfl, rfl⟩ | ⟨p, xs, rfl, hq, fx, fs, rfl⟩ | ⟨a, o, rfl, g, rfl⟩
  · exact op_in_sign pins s σ _ _ _ v u Q I rx ry ⟨d, z, rfl, rfl, q'⟩
  · exact op_in_seq pins s σ _ _ _ v u Q I rx ry ⟨p, xs, rfl, hq, fx, fs, q'⟩
  · cases ry
    exact d_in hu I g rx fun s3 I3 => ⟨.bl o.isSome, _, I3, rfl, q'⟩
theorem op_notInM (hu : X.A.units + 1 < cLine) : OpR X (compareOp .NotIn) (oM2 X.K Mi.oNotIn) := by
  intro pins s σ H x y v u Q I rx ry ⟨c, h, ax, ay, e, rh, r1, r2, q⟩
  subst e
  have q2 : ∃ Q2 : VK, PV X.K c Q2 (Mi.oIn ax ay h) := by
    unfold Mi.oNotIn at q
    cases z : Mi.oIn ax ay h with
    | ok a h1 => exact ⟨fun _ _ => True, fun _ _ _ _ _ _ => trivial⟩
    | ex e h1 => rw [z] at q; exact q.elim
    | no => rw [z] at q; exact q.elim
  obtain ⟨Q2, q2⟩ := q2
  obtain ⟨b, e, hb⟩ := in_cases rh r1 r2 q2
  unfold Mi.oNotIn at q
  rw [e] at q
  have q' : Q (.bl (!b)) c.H := PV.here (a := .bl (!b)) (h := h) q rh (by rw [rep_bl])
  rcases hb with ⟨d, z, rfl, rfl, rfl⟩ | ⟨p, xs, rfl, hq, fx, fs, rfl⟩ | ⟨a, o, rfl, g, rfl⟩
  · exact op_notIn_sign pins s σ _ _ _ v u Q I rx ry ⟨d, z, rfl, rfl, q'⟩
  · exact op_notIn_seq pins s σ _ _ _ v u Q I rx ry ⟨p, xs, rfl, hq, fx, fs, q'⟩
  · cases ry
    exact d_notIn hu I g rx fun s3 I3 => ⟨.bl (!o.isSome), _, I3, rfl, q'⟩
theorem nx_in : Nx2 Mi.oIn := by
  intro x y h e h' z
  unfold Mi.oIn at z
  repeat (first | split at z | cases z)
theorem nx_notIn : Nx2 Mi.oNotIn := by
  intro x y h e h' z
  unfold Mi.oNotIn at z
  cases w : Mi.oIn x y h with
  | ok a h1 =>
    rw [w, Mi.Res.bind_ok] at z
    split at z <;> cases z
  | ex e h1 => exact nx_in x y h e h1 w
  | no =>
    rw [w] at z
    cases z
end
end
end MiS

end

section
set_option maxHeartbeats 4000000
namespace MiS
open PySem PySem.Spec L2
open PyProof.Rows hiding St
open Mi (AV HC AH AX Res AS RS)

/-! ### built-ins by values -/
section
variable {X : Cx} {K : Fg} {c : Cn} {h : AH}
theorem repL_one {x : AV} {vs : List V} (r : RepL K c [x] vs) : ∃ v, vs = [v] ∧ Rep K c x v := by
  rw [repL_cons] at r
  obtain ⟨v, w, rfl, h1, h2⟩ := r
  rw [repL_nil] at h2
  subst h2
  exact ⟨v, rfl, h1⟩
theorem repL_two {x y : AV} {vs : List V} (r : RepL K c [x, y] vs) : ∃ v w, vs = [v, w] ∧ Rep K c x v ∧ Rep K c y w := by
  rw [repL_cons] at r
  obtain ⟨v, w, rfl, h1, h2⟩ := r
  obtain ⟨w', rfl, h3⟩ := repL_one h2
  exact ⟨v, w', rfl, h1, h3⟩
theorem call_lenM : CallR X (.builtin "len") (oMN X.K Mi.cLen) := by
  intro pins s σ H xs us Q I rs ⟨c, h, as, e, rh, r, q⟩
  subst e
  unfold Mi.cLen at q
  split at q
  · rename_i x
    obtain ⟨v, rfl, r1⟩ := repL_one r
    have seq : ∀ (l : List AV) (p : Addr) (vs : List V), v = .ref p → (SqL X.K c.H p vs ∨ SqT X.K c.H p vs) → RepL X.K c l vs → PV X.K c Q (.ok (.int l.length) h) → wpAny (model X.prog X.w) X.A (call (.builtin "len") us) (EP X pins σ Q) X.xe s := by
      intro l p vs e hq hl q0
      subst e
      exact call_len_seq pins s σ _ _ us Q I rs ⟨p, vs, rfl, hq, by rw [← hl.length]; exact q0.here rh (by rw [rep_int])⟩
    cases x with
    | str t =>
      rw [rep_str] at r1
      subst r1
      dsimp only at q
      split at q
      · rename_i hl
        refine call_len_str pins s σ _ _ us Q I rs ⟨_, rfl, by rw [str_len, line_eq]; exact hl, ?_⟩
        rw [str_len]
        exact q.here rh (by rw [rep_int])
      · exact q.elim
    | tup l => obtain ⟨p, vs, e1, e2, e3⟩ := seq_at rh r1 (xs := l) rfl; exact seq l p vs e1 e2 e3 q
    | lst l => obtain ⟨p, vs, e1, e2, e3⟩ := seq_at rh r1 (xs := l) rfl; exact seq l p vs e1 e2 e3 q
    | scr t l => obtain ⟨p, vs, e1, e2, e3⟩ := seq_at rh r1 (xs := l) rfl; exact seq l p vs e1 e2 e3 q
    | cel n =>
      dsimp only at q
      rw [rep_cel] at r1
      obtain ⟨p, rfl, e2⟩ := r1
      split at q
      · rename_i l hn
        obtain ⟨vs, e3, e4⟩ := cell_lst rh e2 hn
        exact seq l p vs rfl (.inl (.inl (.inl e3))) e4 q
      · rename_i kvs hn
        obtain ⟨ks, e3, e4⟩ := dic_at rh e2 hn
        cases rs with
        | cons rx rr =>
          cases rr
          cases rx
          exact d_len I (.inl e3) fun t s' I' => ⟨.int kvs.length, _, I', ⟨t, by rw [e4.length]⟩, q.here rh (by rw [rep_int])⟩
      · exact q.elim
    | non => exact q.elim
    | bl b => exact q.elim
    | int i => exact q.elim
    | xcp => exact q.elim
  · exact q.elim
theorem nx_len : NxN Mi.cLen := by
  intro xs h e h' z
  unfold Mi.cLen at z
  repeat (first | split at z | cases z)
theorem call_absM : CallR X (.builtin "abs") (oMN X.K Mi.cAbs) := by
  intro pins s σ H xs us Q I rs ⟨c, h, as, e, rh, r, q⟩
  subst e
  unfold Mi.cAbs at q
  split at q
  · obtain ⟨v, rfl, r1⟩ := repL_one r
    rw [rep_int] at r1
    subst r1
    exact call_abs pins s σ _ _ us Q I rs ⟨_, rfl, q.here rh (by rw [rep_int])⟩
  · exact q.elim
theorem nx_abs : NxN Mi.cAbs := by
  intro xs h e h' z
  unfold Mi.cAbs at z
  repeat (first | split at z | cases z)
theorem call_max2M (hc : X.calm = true) : CallR X (.builtin "max") (oMN X.K Mi.cMax2) := by
  intro pins s σ H xs us Q I rs ⟨c, h, as, e, rh, r, q⟩
  subst e
  unfold Mi.cMax2 at q
  split at q
  · obtain ⟨v, w, rfl, r1, r2⟩ := repL_two r
    rw [rep_int] at r1 r2
    subst r1 r2
    exact call_max2 hc pins s σ _ _ us Q I rs ⟨_, _, rfl, q.here rh (by rw [rep_int])⟩
  · exact q.elim
theorem nx_max2 : NxN Mi.cMax2 := by
  intro xs h e h' z
  unfold Mi.cMax2 at z
  repeat (first | split at z | cases z)
theorem call_min2M (hc : X.calm = true) : CallR X (.builtin "min") (oMN X.K Mi.cMin2) := by
  intro pins s σ H xs us Q I rs ⟨c, h, as, e, rh, r, q⟩
  subst e
  unfold Mi.cMin2 at q
  split at q
  · obtain ⟨v, w, rfl, r1, r2⟩ := repL_two r
    rw [rep_int] at r1 r2
    subst r1 r2
    exact call_min2 hc pins s σ _ _ us Q I rs ⟨_, _, rfl, q.here rh (by rw [rep_int])⟩
  · exact q.elim
theorem nx_min2 : NxN Mi.cMin2 := by
  intro xs h e h' z
  unfold Mi.cMin2 at z
  repeat (first | split at z | cases z)
theorem digs_all {l : List Nat} (h : Mi.digs l = true) : l ≠ [] ∧ ∀ c ∈ l, 48 ≤ c ∧ c ≤ 57 := by
  unfold Mi.digs at h
  rw [Bool.and_eq_true] at h
  refine ⟨fun z => by rw [z] at h; simp at h, fun c hc => ?_⟩
  have := List.all_eq_true.mp h.2 c hc
  simpa using this
theorem intText_M {s : List Nat} {i : Int} (hl : s.length ≤ 640) (e : Mi.intOf s = some i) : PySem.intText? ⟨s.toArray⟩ = some i := by
  have hlen : (⟨s.toArray⟩ : Str).length = s.length := by simp [Str.length]
  unfold Mi.intOf at e
  split at e
  · rename_i r
    split at e
    · rename_i hd
      cases e
      obtain ⟨d1, d2⟩ := digs_all hd
      exact intText_neg (x := ⟨(45 :: r).toArray⟩) (cs := r) (by simp) d2 d1 (by rw [hlen]; omega)
    · cases e
  · split at e
    · rename_i hd
      cases e
      obtain ⟨d1, d2⟩ := digs_all hd
      have := intText_digits (x := ⟨s.toArray⟩) (by intro c hc; exact d2 c (by simpa using hc)) (by simpa using d1) (by rw [hlen]; omega)
      have e2 : (⟨s.toArray⟩ : Str).cps.toList = s := by simp
      rw [e2] at this
      exact this
    · cases e
theorem call_intM : CallR X (.type "int") (oMN X.K Mi.cInt) := by
  intro pins s σ H xs us Q I rs ⟨c, h, as, e, rh, r, q⟩
  subst e
  unfold Mi.cInt at q
  split at q
  · obtain ⟨v, rfl, r1⟩ := repL_one r
    rw [rep_int] at r1
    subst r1
    exact call_int1 pins s σ _ _ us Q I rs (.inl ⟨_, rfl, q.here rh (by rw [rep_int])⟩)
  · obtain ⟨v, rfl, r1⟩ := repL_one r
    rw [rep_bl] at r1
    subst r1
    exact call_int1 pins s σ _ _ us Q I rs (.inr ⟨_, rfl, q.here rh (by rw [rep_int]; rfl)⟩)
  · rename_i t
    obtain ⟨v, rfl, r1⟩ := repL_one r
    rw [rep_str] at r1
    subst r1
    split at q
    · rename_i hl
      split at q
      · rename_i i hi
        exact call_int_str pins s σ _ _ us Q I rs ⟨_, i, rfl, intText_M hl hi, by simpa [Str.length] using hl, q.here rh (by rw [rep_int])⟩
      · exact q.elim
    · exact q.elim
  · exact q.elim
theorem nx_int1 : NxN Mi.cInt := by
  intro xs h e h' z
  unfold Mi.cInt at z
  repeat (first | split at z | cases z)
theorem str_intL (i : Int) : (Str.ofString (toString i)) = ⟨(Mi.intL i).toArray⟩ := by
  apply TL.ext_tl
  rw [TL.tl_ofString]
  show (toString i).toList.map Char.toNat = Mi.intL i
  unfold Mi.intL
  cases i with
  | ofNat n =>
    rw [if_neg (show ¬ Int.ofNat n < 0 from Int.not_lt.mpr (Int.natCast_nonneg n))]
    have e : toString (Int.ofNat n) = toString n := rfl
    rw [e]
    show (Nat.repr n).toList.map Char.toNat = Mi.numL n
    unfold Nat.repr Mi.numL
    rw [String.toList_ofList]
  | negSucc n =>
    rw [if_pos (Int.negSucc_lt_zero n)]
    have e : toString (Int.negSucc n) = "-" ++ toString (n + 1) := rfl
    rw [e, String.toList_append, List.map_append]
    show 45 :: (Nat.repr (n + 1)).toList.map Char.toNat = 45 :: Mi.numL (n + 1)
    unfold Nat.repr Mi.numL
    rw [String.toList_ofList]
theorem call_strM : CallR X (.type "str") (oMN X.K Mi.cStr) := by
  intro pins s σ H xs us Q I rs ⟨c, h, as, e, rh, r, q⟩
  subst e
  unfold Mi.cStr at q
  split at q
  · rename_i i
    obtain ⟨v, rfl, r1⟩ := repL_one r
    rw [rep_int] at r1
    subst r1
    split at q
    · rename_i hl
      refine call_str_int pins s σ _ _ us Q I rs ⟨_, rfl, hl, ?_⟩
      have e := str_intL i
      rw [e]
      exact q.here rh (by rw [rep_str])
    · exact q.elim
  · exact q.elim
theorem nx_str : NxN Mi.cStr := by
  intro xs h e h' z
  unfold Mi.cStr at z
  repeat (first | split at z | cases z)
theorem call_listM : CallR X (.type "list") (oMN X.K Mi.cList) := by
  intro pins s σ H xs us Q I rs ⟨c, h, as, e, rh, r, q⟩
  subst e
  unfold Mi.cList at q
  split at q
  · obtain ⟨v, rfl, r1⟩ := repL_one r
    split at q
    · rename_i l e
      obtain ⟨p, vs, rfl, e2, e3⟩ := seq_at rh r1 e
      exact call_list_of pins s σ _ _ us Q I rs ⟨p, vs, rfl, e2, fun p hp => q.lst rh e3 hp⟩
    · exact q.elim
  · exact q.elim
theorem nx_list : NxN Mi.cList := by
  intro xs h e h' z
  unfold Mi.cList at z
  repeat (first | split at z | cases z)
theorem call_listC : CallR X (.type "list") (oMN X.K Mi.cListC) := by
  intro pins s σ H xs us Q I rs ⟨c, h, as, e, rh, r, q⟩
  subst e
  unfold Mi.cListC at q
  split at q
  · obtain ⟨v, rfl, r1⟩ := repL_one r
    split at q
    · rename_i l e
      obtain ⟨p, vs, rfl, e2, e3⟩ := seq_at rh r1 e
      exact call_list_of pins s σ _ _ us Q I rs ⟨p, vs, rfl, e2, fun p hp => q.cell rh e3 hp⟩
    · exact q.elim
  · exact q.elim
theorem nx_listC : NxN Mi.cListC := by
  intro xs h e h' z
  unfold Mi.cListC at z
  repeat (first | split at z | cases z)
theorem call_tupleM : CallR X (.type "tuple") (oMN X.K Mi.cTuple) := by
  intro pins s σ H xs us Q I rs ⟨c, h, as, e, rh, r, q⟩
  subst e
  unfold Mi.cTuple at q
  split at q
  · rename_i x
    obtain ⟨v, rfl, r1⟩ := repL_one r
    split at q
    · rename_i l
      rw [rep_tup] at r1
      obtain ⟨p, vs, rfl, e2, e3⟩ := r1
      exact call_tuple_of pins s σ _ _ us Q I rs ⟨p, vs, rfl, .inr ⟨.inl (.inl e2), q.here rh (by rw [rep_tup]; exact ⟨p, vs, rfl, e2, e3⟩)⟩⟩
    · rename_i l
      rw [rep_scr] at r1
      obtain ⟨p, vs, rfl, e2, e3⟩ := r1
      exact call_tuple_of pins s σ _ _ us Q I rs ⟨p, vs, rfl, .inl ⟨e2.sq, fun p hp => q.tup rh e3 hp⟩⟩
    · split at q
      · rename_i l e
        obtain ⟨p, vs, rfl, e2, e3⟩ := lst_at rh r1 e
        exact call_tuple_of pins s σ _ _ us Q I rs ⟨p, vs, rfl, .inl ⟨.inl (.inl e2), fun p hp => q.tup rh e3 hp⟩⟩
      · exact q.elim
  · exact q.elim
theorem nx_tuple : NxN Mi.cTuple := by
  intro xs h e h' z
  unfold Mi.cTuple at z
  repeat (first | split at z | cases z)
/-! isinstance of a built-in type -/
theorem ty_of {x : AV} {v : V} (rh : RepH K c h) (r : Rep K c x v) {t : String} {b : Bool} (e : Mi.isTy t x h = some b) (ht : t = "int" ∨ t = "bool" ∨ t = "str" ∨ t = "tuple" ∨ t = "list" ∨ t = "dict") :
    ∃ ty, TyX K c.H v ty ∧ PySem.W.kitOne K ty (.type t) = some b := by
  have go : ∀ (n : String) (b' : Bool), n = "NoneType" ∨ n = "bool" ∨ n = "int" ∨ n = "str" ∨ n = "tuple" ∨ n = "list" ∨ n = "dict" → b' = ((t == n) || (t == "int" && n == "bool")) → PySem.W.kitOne K (.type n) (.type t) = some b' := by
    intro n b' hn eb
    refine kit_ty ?_
    subst eb
    rcases ht with rfl | rfl | rfl | rfl | rfl | rfl <;> rcases hn with rfl | rfl | rfl | rfl | rfl | rfl | rfl <;> decide +kernel
  cases x with
  | non =>
    rw [rep_non] at r
    subst r
    cases e
    exact ⟨_, .base .non, go "NoneType" false (by simp) (by rcases ht with rfl | rfl | rfl | rfl | rfl | rfl <;> decide)⟩
  | bl b' =>
    rw [rep_bl] at r
    subst r
    cases e
    exact ⟨_, .base (.bl b'), go "bool" _ (by simp) (by rcases ht with rfl | rfl | rfl | rfl | rfl | rfl <;> decide)⟩
  | int i =>
    rw [rep_int] at r
    subst r
    cases e
    exact ⟨_, .base (.int i), go "int" _ (by simp) (by rcases ht with rfl | rfl | rfl | rfl | rfl | rfl <;> decide)⟩
  | str s =>
    rw [rep_str] at r
    subst r
    cases e
    exact ⟨_, .base (.str _), go "str" _ (by simp) (by rcases ht with rfl | rfl | rfl | rfl | rfl | rfl <;> decide)⟩
  | tup xs =>
    rw [rep_tup] at r
    obtain ⟨p, vs, rfl, e2, _⟩ := r
    cases e
    exact ⟨_, .base (.tup e2), go "tuple" _ (by simp) (by rcases ht with rfl | rfl | rfl | rfl | rfl | rfl <;> decide)⟩
  | lst xs =>
    rw [rep_lst] at r
    obtain ⟨p, vs, rfl, e2, _⟩ := r
    cases e
    exact ⟨_, .base (.lst e2.1), go "list" _ (by simp) (by rcases ht with rfl | rfl | rfl | rfl | rfl | rfl <;> decide)⟩
  | scr t xs => cases e
  | xcp => cases e
  | cel n =>
    rw [rep_cel] at r
    obtain ⟨p, rfl, e2⟩ := r
    have e : (match h[n]? with | some (.lst _) => some (t == "list") | some (.dic _ _) => some (t == "dict") | none => none) = some b := e
    split at e
    · rename_i l hn
      obtain ⟨vs, e3, _⟩ := cell_lst rh e2 hn
      cases e
      exact ⟨_, .base (.lst e3), go "list" _ (by simp) (by rcases ht with rfl | rfl | rfl | rfl | rfl | rfl <;> decide)⟩
    · rename_i t' kvs hn
      have z := dic_at rh e2 hn
      cases e
      cases t' with
      | false =>
        obtain ⟨ks, e3, _⟩ := z
        exact ⟨_, .base (.dK e3), go "dict" _ (by simp) (by rcases ht with rfl | rfl | rfl | rfl | rfl | rfl <;> decide)⟩
      | true =>
        obtain ⟨ks, e3, _⟩ := z
        exact ⟨_, .base (.dT e3), go "dict" _ (by simp) (by rcases ht with rfl | rfl | rfl | rfl | rfl | rfl <;> decide)⟩
    · cases e
theorem call_isiM : CallR X (.builtin "isinstance") (fun xs H Q => ∃ (x : V) (t : String), xs = [x, .ty t] ∧ (t = "int" ∨ t = "bool" ∨ t = "str" ∨ t = "tuple" ∨ t = "list" ∨ t = "dict") ∧ oM1 X.K (Mi.oIsTy t) x H Q) := by
  intro pins s σ H xs us Q I rs ⟨x, t, e1, ht, c, h, ax, e, rh, r, q⟩
  subst e1 e
  unfold Mi.oIsTy at q
  split at q
  · rename_i b e
    obtain ⟨ty, h1, h2⟩ := ty_of rh r e ht
    exact call_isi pins s σ _ _ us Q I rs ⟨x, .ty t, ty, .type t, b, rfl, .ty t, h1, h2, q.here rh (by rw [rep_bl])⟩
  · exact q.elim
theorem nx_isTy (t : String) : Nx1 (Mi.oIsTy t) := by
  intro x h e h' z
  unfold Mi.oIsTy at z
  repeat (first | split at z | cases z)

/-! ### methods -/
theorem len_sum {s : List Nat} : ∀ (l : List (List Nat)), ((l.map fun t => (⟨t.toArray⟩ : Str)).map (·.length)).sum + (l.map fun t => (⟨t.toArray⟩ : Str)).length * (⟨s.toArray⟩ : Str).length = Mi.lenSum s l
  | [] => by simp [Mi.lenSum]
  | x :: r => by
    have ih := len_sum (s := s) r
    simp only [List.map_cons, List.sum_cons, List.length_cons, Mi.lenSum, str_len] at ih ⊢
    rw [Nat.add_mul]
    omega
theorem strs_rep : ∀ {xs : List AV} {vs : List V} {l : List (List Nat)}, RepL K c xs vs → Mi.strsOf xs = some l → vs = (l.map fun t => (⟨t.toArray⟩ : Str)).map V.str
  | [], _, _, r, e => by cases e; rw [repL_nil] at r; exact r
  | x :: xs, _, l, r, e => by
    rw [repL_cons] at r
    obtain ⟨v, w, rfl, h1, h2⟩ := r
    cases x with
    | str t =>
      unfold Mi.strsOf at e
      obtain ⟨l', e1, e2⟩ := Option.map_eq_some_iff.mp e
      subst e2
      rw [rep_str] at h1
      subst h1
      rw [strs_rep h2 e1]
      rfl
    | _ => cases e
theorem joinL_eq (S : List Nat) : ∀ l : List (List Nat), Mi.joinL S l = TL.joinL S l
  | [] => rfl
  | [x] => rfl
  | x :: y :: r => by
    unfold Mi.joinL TL.joinL
    rw [joinL_eq S (y :: r), List.append_assoc]
theorem join_strs (s : List Nat) (l : List (List Nat)) : Txt.join ⟨s.toArray⟩ (l.map fun t => (⟨t.toArray⟩ : Str)) = ⟨(Mi.joinL s l).toArray⟩ := by
  apply TL.ext_tl
  rw [TL.join_eq, TL.tl_join, List.map_map]
  rw [show (TL.tl ∘ fun t : List Nat => (⟨t.toArray⟩ : Str)) = id from rfl, List.map_id]
  show TL.joinL s l = Mi.joinL s l
  rw [joinL_eq]
/-- a method by values: receiver, one argument; receiver alone -/
def oMt1 (K : Fg) (f : AV → AV → Mi.M AV) : V → List V → Hp → VK → Prop := fun x xs H Q => ∃ y, xs = [y] ∧ oM2 K f x y H Q
def oMt0 (K : Fg) (f : AV → Mi.M AV) : V → List V → Hp → VK → Prop := fun x xs H Q => xs = [] ∧ oM1 K f x H Q
theorem mt_joinM : MtR X "str.join" (oMt1 X.K Mi.mJoin) := by
  intro pins s σ H x xs v us Q I rx rs ⟨y, e0, c, h, ax, ay, e, rh, r1, r2, q⟩
  subst e0 e
  unfold Mi.mJoin at q
  split at q
  · rename_i t ys e1
    split at q
    · rename_i l e2
      split at q
      · rename_i hl
        rw [rep_str] at r1
        subst r1
        obtain ⟨p, vs, rfl, h2, h3⟩ := seq_at rh r2 e1
        rw [strs_rep h3 e2] at h2
        refine mt_join pins s σ _ _ _ v us Q I rx rs ⟨_, p, _, rfl, rfl, h2, by rw [len_sum]; exact hl, ?_⟩
        rw [join_strs]
        exact q.here rh (by rw [rep_str])
      · exact q.elim
    · exact q.elim
  · exact q.elim
theorem nx_join : Nx2 Mi.mJoin := by
  intro x y h e h' z
  unfold Mi.mJoin at z
  repeat (first | split at z | cases z)
theorem spl_eq (S : List Nat) : ∀ (l : List Nat) (k : Nat) (acc : List Nat), Mi.spl S k acc l = TL.spl S k acc l
  | [], k, acc => by cases k <;> rfl
  | c :: r, 0, acc => by
    unfold Mi.spl TL.spl
    rw [spl_eq S r, spl_eq S r]
    rfl
  | c :: r, k + 1, acc => by
    unfold Mi.spl TL.spl
    exact spl_eq S r k acc
theorem split_strs {s t : List Nat} (ht : t ≠ []) (h8 : t.all (· < 256) = true) : (Txt.split ⟨s.toArray⟩ ⟨t.toArray⟩).map V.str = ((Mi.spl t 0 [] s).map fun u => V.str ⟨u.toArray⟩) := by
  have e := TL.split_spl ⟨s.toArray⟩ ⟨t.toArray⟩ ht (TL.kind_ok (by simpa using h8))
  have e2 : (Txt.split ⟨s.toArray⟩ ⟨t.toArray⟩) = (Mi.spl t 0 [] s).map fun u => (⟨u.toArray⟩ : Str) := by
    apply TL.map_tl_inj
    rw [e, List.map_map, show (TL.tl ∘ fun t : List Nat => (⟨t.toArray⟩ : Str)) = id from rfl, List.map_id, spl_eq]
  rw [e2, List.map_map]
  rfl
theorem mt_splitM : MtR X "str.split" (oMt1 X.K Mi.mSplit) := by
  intro pins s σ H x xs v us Q I rx rs ⟨y, e0, c, h, ax, ay, e, rh, r1, r2, q⟩
  subst e0 e
  unfold Mi.mSplit at q
  split at q
  · rename_i a b
    split at q
    · rename_i hl
      obtain ⟨h1, h2, h3⟩ := hl
      rw [rep_str] at r1 r2
      subst r1 r2
      refine mt_split pins s σ _ _ _ v us Q I rx rs ⟨_, _, rfl, rfl, ?_, by rw [str_len, line_eq]; exact h2, ?_⟩
      · rw [str_len]
        cases b with
        | nil => exact absurd rfl h1
        | cons _ _ => rfl
      · intro p hp
        rw [split_strs h1 h3]
        exact q.lst rh (RepL.strs _) hp
    · exact q.elim
  · exact q.elim
theorem nx_split : Nx2 Mi.mSplit := by
  intro x y h e h' z
  unfold Mi.mSplit at z
  repeat (first | split at z | cases z)
theorem mt_appendM : MtR X "list.append" (oMt1 X.K Mi.mAppend) := by
  intro pins s σ H x xs v us Q I rx rs ⟨y, e0, c, h, ax, ay, e, rh, r1, r2, q⟩
  subst e0 e
  unfold Mi.mAppend at q
  split at q
  · rename_i n
    split at q
    · rename_i l hn
      split at q
      · rename_i hl
        rw [rep_cel] at r1
        obtain ⟨p, rfl, e2⟩ := r1
        obtain ⟨vs, e3, e4⟩ := cell_lst rh e2 hn
        refine mt_append pins s σ _ _ _ v us Q I rx rs ⟨p, vs, y, rfl, rfl, e3, by rw [← e4.length, line_eq]; exact hl, ?_⟩
        exact q.write rh e2 ⟨_, upd_same, RepL.ext (ext_write rh (List.mem_of_getElem? e2)) _ (e4.append (RepL.one r2))⟩ (by rw [rep_non])
      · exact q.elim
    · exact q.elim
  · exact q.elim
theorem nx_append : Nx2 Mi.mAppend := by
  intro x y h e h' z
  unfold Mi.mAppend at z
  repeat (first | split at z | cases z)
theorem mt_extendM : MtR X "list.extend" (oMt1 X.K Mi.mExtend) := by
  intro pins s σ H x xs v us Q I rx rs ⟨y, e0, c, h, ax, ay, e, rh, r1, r2, q⟩
  subst e0 e
  unfold Mi.mExtend at q
  split at q
  · rename_i n ys e1
    split at q
    · rename_i l hn
      split at q
      · rename_i hl
        rw [rep_cel] at r1
        obtain ⟨p, rfl, e2⟩ := r1
        obtain ⟨vs, e3, e4⟩ := cell_lst rh e2 hn
        obtain ⟨b, ws, rfl, e5, e6⟩ := lst_at rh r2 e1
        refine mt_extend pins s σ _ _ _ v us Q I rx rs ⟨p, b, vs, ws, rfl, rfl, e3, e5, by rw [← e4.length, ← e6.length, line_eq]; exact hl, ?_⟩
        exact q.write rh e2 ⟨_, upd_same, RepL.ext (ext_write rh (List.mem_of_getElem? e2)) _ (e4.append e6)⟩ (by rw [rep_non])
      · exact q.elim
    · exact q.elim
  · exact q.elim
theorem nx_extend : Nx2 Mi.mExtend := by
  intro x y h e h' z
  unfold Mi.mExtend at z
  repeat (first | split at z | cases z)
theorem mt_popM : MtR X "list.pop" (oMt0 X.K Mi.mPop) := by
  intro pins s σ H x xs v us Q I rx rs ⟨e0, c, h, ax, e, rh, r1, q⟩
  subst e0 e
  unfold Mi.mPop at q
  split at q
  · rename_i n
    split at q
    · rename_i l hn
      split at q
      · rename_i w hw
        rw [rep_cel] at r1
        obtain ⟨p, rfl, e2⟩ := r1
        obtain ⟨vs, e3, e4⟩ := cell_lst rh e2 hn
        obtain ⟨z, h1, h2⟩ := e4.get hw
        refine mt_pop pins s σ _ _ _ v us Q I rx rs ⟨p, vs, z, rfl, rfl, e3, by rw [← e4.length]; exact h1, ?_⟩
        exact q.write rh e2 ⟨_, upd_same, RepL.ext (ext_write rh (List.mem_of_getElem? e2)) _ e4.dropLast⟩ h2
      · exact q.elim
    · exact q.elim
  · exact q.elim
theorem nx_pop : Nx1 Mi.mPop := by
  intro x h e h' z
  unfold Mi.mPop at z
  repeat (first | split at z | cases z)
theorem mt_popAtM : MtR X "list.pop" (oMt1 X.K Mi.mPopAt) := by
  intro pins s σ H x xs v us Q I rx rs ⟨y, e0, c, h, ax, ay, e, rh, r1, r2, q⟩
  subst e0 e
  unfold Mi.mPopAt at q
  split at q
  · rename_i n i
    split at q
    · rename_i l hn
      split at q
      · rename_i k hk
        split at q
        · rename_i w hw
          rw [rep_cel] at r1
          obtain ⟨p, rfl, e2⟩ := r1
          rw [rep_int] at r2
          subst r2
          obtain ⟨vs, e3, e4⟩ := cell_lst rh e2 hn
          obtain ⟨z, h1, h2⟩ := e4.get hw
          obtain ⟨z1, _, _, _⟩ := I.lst e3
          rw [atN_eq, e4.length] at hk
          obtain ⟨k1, k2, k3, k4⟩ := ixN_seq hk
          have hb : vs.length ≤ sizeLine := by
            obtain ⟨_, _, _, _, hz⟩ := I.lst e3
            exact hz
          have hn := line63
          refine mt_popAt pins s σ _ _ _ v us Q I rx rs ⟨p, vs, i, k, z, rfl, rfl, e3, by omega, by omega, k1, h1, ?_⟩
          exact q.write rh e2 ⟨_, upd_same, RepL.ext (ext_write rh (List.mem_of_getElem? e2)) _ (e4.erase k)⟩ h2
        · exact q.elim
      · exact q.elim
    · exact q.elim
  · exact q.elim
theorem nx_popAt : Nx2 Mi.mPopAt := by
  intro x y h e h' z
  unfold Mi.mPopAt at z
  repeat (first | split at z | cases z)
/-! ### stores -/
def PVs (K : Fg) (c : Cn) (Q : Hp → Prop) : Option AH → Prop
  | some h => ∀ (d : Cn), d.X = c.X → Ext c d → RepH K d h → Q d.H
  | none => False
theorem set_M (hu : X.A.units + 1 < cLine) : PSet X (fun o i v H Q => ∃ (c : Cn) (h : AH) (ao ai av : AV), c.H = H ∧ RepH X.K c h ∧ Rep X.K c ao o ∧ Rep X.K c ai i ∧ Rep X.K c av v ∧ PVs X.K c Q (Mi.sPut ao ai av h)) := by
  intro pins s σ H o i v ov iv u Q I ro ri rv ⟨c, h, ao, ai, av, e, rh, r1, r2, r3, q⟩
  subst e
  unfold Mi.sPut at q
  split at q
  · rename_i n
    rw [rep_cel] at r1
    obtain ⟨p, rfl, e2⟩ := r1
    split at q
    · rename_i l hn
      obtain ⟨vs, e3, e4⟩ := cell_lst rh e2 hn
      split at q
      · rename_i k
        split at q
        · rename_i j hj
          rw [rep_int] at r2
          subst r2
          refine set_list pins s σ _ _ _ _ ov iv u Q I ro ri rv ⟨p, vs, k, j, rfl, rfl, e3, by rw [← atN_eq, ← e4.length]; exact hj, ?_⟩
          refine q (c.at (upd c.H p (.lst (vs.set j v)))) rfl (ext_write rh (List.mem_of_getElem? e2)) (rh.write e2 ⟨_, upd_same, RepL.ext (ext_write rh (List.mem_of_getElem? e2)) _ (e4.set j r3)⟩)
        · exact q.elim
      · exact q.elim
    · rename_i t kvs hn
      split at q
      · rename_i hk
        obtain ⟨hk, hl⟩ := hk
        have z := dic_at rh e2 hn
        cases ro
        cases t with
        | false =>
          obtain ⟨ks, e3, e4⟩ := z
          obtain ⟨k, ek⟩ := akey_of (x := ai) hk
          rw [akey_v r2 ek] at ri
          refine d_setItem hu I (DPut.k e3 (by rw [← e4.length, line_eq]; exact hl)) ri rv fun s' I' => ⟨_, I', ?_⟩
          exact q (c.at _) rfl (ext_write rh (List.mem_of_getElem? e2)) (rh.write e2 ⟨_, upd_same, RepKV.ext (ext_write rh (List.mem_of_getElem? e2)) (e4.put akey_eqv ek r3)⟩)
        | true =>
          obtain ⟨ks, e3, e4⟩ := z
          obtain ⟨xs, k, rfl, ek⟩ := akeyT_of (x := ai) hk
          rw [rep_tup] at r2
          obtain ⟨b, ws, rfl, hb, hv⟩ := r2
          rw [akeys_v hv ek] at hb
          refine d_setItem hu I (DPut.t e3 hb (by rw [← e4.length, line_eq]; exact hl)) ri rv fun s' I' => ⟨_, I', ?_⟩
          exact q (c.at _) rfl (ext_write rh (List.mem_of_getElem? e2)) (rh.write e2 ⟨_, upd_same, RepKV.ext (ext_write rh (List.mem_of_getElem? e2)) (e4.put akeyT_eqv (x := .tup xs) (k := k) ek r3)⟩)
      · exact q.elim
    · exact q.elim
  · exact q.elim
end
end MiS

end

section
set_option maxHeartbeats 4000000
namespace MiS
open PySem PySem.Spec L2
open PyProof.Rows hiding St
open Mi (AV HC AH AX Res AS RS)

/-! ### expressions -/
section
variable {ct : Ct} {X : Cx} {W : WX} {a b e : Expr} {es : List Expr} {ma mb mc me : Mi.E} {pos : Pos}
theorem Post.pv {K : Fg} {ct : Ct} {W : WX} {c : Cn} {σ : St} {Q : VK} {r : Res AV} (h : Post K ct W (RE K) c σ Q r) (hn : ∀ e h', r ≠ .ex e h') : PV K c Q r := by
  cases r with
  | ok a h' => exact h
  | ex e h' => exact absurd rfl (hn e h')
  | no => exact h
theorem q_var (i : Nat) {x : Str} (hN : X.N[i]? = some x := by rfl) (hv : Vis X.env.scope x := by first | exact Or.inl rfl | exact Or.inr (Or.inl rfl) | exact Or.inr (Or.inr rfl)) (hd : (x == ("__debug__" : Str)) = false := by decide)
    (hcd : (x == ("__classdict__" : Str)) = false := by decide) (hk : ct.ok i = true := by rfl) : QE ct X W (.Name x pos) (Mi.eVar i) := by
  refine PE.imp (pe_var (i := i) hN hv hd hcd) fun σ H Q ⟨c, h, as, e, rh, rs, q⟩ => ?_
  subst e
  unfold Mi.eVar at q
  split at q
  · rename_i v hv
    obtain ⟨w, h1, h2⟩ := rs.2.1 i v hk hv
    exact ⟨w, h1, q c w rfl (.refl c) rh h2⟩
  · exact q.elim
theorem q_c {v : V} {av : AV} (p : PE X e (tC v)) (r : ∀ c : Cn, Rep X.K c av v) : QE ct X W e (Mi.eC av) :=
  PE.imp p fun σ H Q ⟨c, h, as, e, rh, rs, q⟩ => by
    subst e
    exact q c v rfl (.refl c) rh (r c)
theorem q_int {i j} : QE ct X W (.Constant (.int i) j pos) (Mi.eC (.int i)) := q_c pe_int fun c => by rw [rep_int]
theorem q_bl {k j} : QE ct X W (.Constant (.bool k) j pos) (Mi.eC (.bl k)) := q_c pe_bl fun c => by rw [rep_bl]
theorem q_non {j} : QE ct X W (.Constant .none j pos) (Mi.eC .non) := q_c pe_non fun c => by rw [rep_non]
theorem q_str {x : Str} {j} (l : List Nat) (hx : x = ⟨l.toArray⟩ := by decide +kernel) : QE ct X W (.Constant (.str x) j pos) (Mi.eC (.str l)) := q_c pe_str fun c => by rw [rep_str, hx]
/-- two expressions, then an operation by values -/
theorem use_op2 {K : Fg} {σ : St} {H : Hp} {Q : VK} {f : AV → AV → Mi.M AV} (hf : Nx2 f) (h : tM K ct W (RE K) (Mi.eOp2 f ma mb) σ H Q) :
    tM K ct W (RE K) ma σ H fun x H1 => tM K ct W (RE K) mb σ H1 fun y H2 => oM2 K f x y H2 Q := by
  obtain ⟨c, h, as, e, rh, rs, q⟩ := h
  subst e
  refine tM_bind (P := fun c r => Post K ct W (RE K) c σ Q r) Post.pk rh rs q fun d h1 a v hx e1 rh1 rs1 r1 q1 => ?_
  refine tM_bind (P := fun c r => Post K ct W (RE K) c σ Q r) Post.pk rh1 rs1 q1 fun d2 h2 b w hx2 e2 rh2 rs2 r2 q2 => ?_
  exact ⟨d2, h2, a, b, rfl, rh2, r1.ext e2, r2, q2.pv (hf a b h2)⟩
theorem use_op1 {K : Fg} {σ : St} {H : Hp} {Q : VK} {f : AV → Mi.M AV} (hf : Nx1 f) (h : tM K ct W (RE K) (Mi.eOp1 f ma) σ H Q) :
    tM K ct W (RE K) ma σ H fun x H1 => oM1 K f x H1 Q := by
  obtain ⟨c, h, as, e, rh, rs, q⟩ := h
  subst e
  refine tM_bind (P := fun c r => Post K ct W (RE K) c σ Q r) Post.pk rh rs q fun d h1 a v hx e1 rh1 rs1 r1 q1 => ?_
  exact ⟨d, h1, a, rfl, rh1, r1, q1.pv (hf a h1)⟩
theorem q_op {op : Operator} {f : AV → AV → Mi.M AV} (ho : OpR X (binaryOp op) (oM2 X.K f)) (hf : Nx2 f) (ha : QE ct X W a ma) (hb : QE ct X W b mb) : QE ct X W (.BinOp a op b pos) (Mi.eOp2 f ma mb) :=
  PE.imp (pe_op ho ha hb) fun σ H Q h => use_op2 hf h
theorem q_un {op : UnaryOp} {f : AV → Mi.M AV} (ho : UnR X (unaryOp op) (oM1 X.K f)) (hf : Nx1 f) (ha : QE ct X W a ma) : QE ct X W (.UnaryOp op a pos) (Mi.eOp1 f ma) :=
  PE.imp (pe_un ho ha) fun σ H Q h => use_op1 hf h
theorem q_cmp {op : CmpOp} {f : AV → AV → Mi.M AV} (ho : OpR X (compareOp op) (oM2 X.K f)) (hf : Nx2 f) (ha : QE ct X W a ma) (hb : QE ct X W b mb) (hm : behindInMarks op b = false) : QE ct X W (.Compare a [op] [b] pos) (Mi.eOp2 f ma mb) :=
  PE.imp (pe_cmpR ho ha hb hm) fun σ H Q h => use_op2 hf h
theorem use_test {K : Fg} {σ : St} {H : Hp} {Q : Bool → Hp → Prop} (h : tM K ct W RQ (Mi.tB ma) σ H Q) : tM K ct W (RE K) ma σ H fun x H1 => ∃ k, x = .bl k ∧ Q k H1 := by
  obtain ⟨c, h, as, e, rh, rs, q⟩ := h
  subst e
  refine tM_bind (P := fun c r => Post K ct W RQ c σ Q r) Post.pk rh rs q fun d h1 a v hx e1 rh1 rs1 r1 q1 => ?_
  split at q1
  · rw [RE, rep_bl] at r1
    exact ⟨_, r1, q1 d _ rfl (.refl d) rh1 rfl⟩
  · exact q1.elim
theorem use_test2 {K : Fg} {σ : St} {H : Hp} {Q : Bool → Hp → Prop} {f : AV → AV → Mi.M AV} (hf : Nx2 f) (h : tM K ct W RQ (Mi.tB (Mi.eOp2 f ma mb)) σ H Q) :
    tM K ct W (RE K) ma σ H fun x H1 => tM K ct W (RE K) mb σ H1 fun y H2 => oM2 K f x y H2 fun x H' => ∃ k, x = .bl k ∧ Q k H' := use_op2 hf (use_test h)
theorem qt_cmp {op : CmpOp} {f : AV → AV → Mi.M AV} (ho : OpR X (compareOp op) (oM2 X.K f)) (hf : Nx2 f) (ha : QE ct X W a ma) (hb : QE ct X W b mb) (hm : behindInMarks op b = false) : QT ct X W (.Compare a [op] [b] pos) (Mi.tB (Mi.eOp2 f ma mb)) :=
  PT.imp (pt_cmpR ho ha hb hm) fun σ H Q h => use_test2 hf h
/-- is None -/
theorem q_isN {j pos'} (ha : QE ct X W a ma) : QE ct X W (.Compare a [.Is] [.Constant .none j pos'] pos) (Mi.eOp1 Mi.oIsN ma) :=
  PE.imp (pe_cmp (pc_isN ha) rfl) fun σ H Q ⟨c, h, as, e, rh, rs, q⟩ => by
    subst e
    refine tM_bind (P := fun c r => Post X.K ct W (RE X.K) c σ Q r) Post.pk rh rs q fun d h1 a v hx e1 rh1 rs1 r1 q1 => ?_
    rw [oIsN_eq] at q1
    rw [rep_isN r1]
    exact q1 d _ rfl (.refl d) rh1 (by rw [RE, rep_bl])
theorem q_notN {j pos'} (ha : QE ct X W a ma) : QE ct X W (.Compare a [.IsNot] [.Constant .none j pos'] pos) (Mi.eOp1 Mi.oNotN ma) :=
  PE.imp (pe_cmp (pc_notN ha) rfl) fun σ H Q ⟨c, h, as, e, rh, rs, q⟩ => by
    subst e
    refine tM_bind (P := fun c r => Post X.K ct W (RE X.K) c σ Q r) Post.pk rh rs q fun d h1 a v hx e1 rh1 rs1 r1 q1 => ?_
    rw [oNotN_eq] at q1
    rw [rep_isN r1]
    exact q1 d _ rfl (.refl d) rh1 (by rw [RE, rep_bl])
/-- an expression as a test, a bool -/
theorem qt_val {t : Mi.E} (h : QE ct X W e t) (he : ∀ whole, isTrue e X.env whole = (do let v ← whole; standAt e.pos; holding [v] (truthy v)) := by intro _; rfl) : QT ct X W e (Mi.tB t) :=
  PT.imp (pt_val h he) fun σ H Q h => use_test h
theorem qt_isN {j pos'} (ha : QE ct X W a ma) : QT ct X W (.Compare a [.Is] [.Constant .none j pos'] pos) (Mi.tB (Mi.eOp1 Mi.oIsN ma)) :=
  PT.imp (pt_cmp (pc_isN ha) rfl) fun σ H Q h => by
    obtain ⟨c, h, as, e, rh, rs, q⟩ := use_test h
    subst e
    refine tM_bind (P := fun c r => Post X.K ct W (RE X.K) c σ (fun x H1 => ∃ k, x = V.bl k ∧ Q k H1) r) Post.pk rh rs q fun d h1 a v hx e1 rh1 rs1 r1 q1 => ?_
    rw [oIsN_eq] at q1
    rw [rep_isN r1]
    exact q1 d _ rfl (.refl d) rh1 (by rw [RE, rep_bl])
theorem qt_notN {j pos'} (ha : QE ct X W a ma) : QT ct X W (.Compare a [.IsNot] [.Constant .none j pos'] pos) (Mi.tB (Mi.eOp1 Mi.oNotN ma)) :=
  PT.imp (pt_cmp (pc_notN ha) rfl) fun σ H Q h => by
    obtain ⟨c, h, as, e, rh, rs, q⟩ := use_test h
    subst e
    refine tM_bind (P := fun c r => Post X.K ct W (RE X.K) c σ (fun x H1 => ∃ k, x = V.bl k ∧ Q k H1) r) Post.pk rh rs q fun d h1 a v hx e1 rh1 rs1 r1 q1 => ?_
    rw [oNotN_eq] at q1
    rw [rep_isN r1]
    exact q1 d _ rfl (.refl d) rh1 (by rw [RE, rep_bl])
variable {tA tB' : Mi.T} {rest : List Expr}
theorem qw_and1 (ha : QT ct X W a tA) : QW ct X W (.BoolOp .And [a] pos) tA := pw_and1 ha
theorem qw_or1 (ha : QT ct X W a tA) : QW ct X W (.BoolOp .Or [a] pos) tA := pw_or1 ha
theorem qw_and (ha : QT ct X W a tA) (hb : QW ct X W (.BoolOp .And (b :: rest) pos) tB') : QW ct X W (.BoolOp .And (a :: b :: rest) pos) (Mi.tAnd tA tB') :=
  PW.imp (pw_and ha hb) fun σ H Q ⟨c, h, as, e, rh, rs, q⟩ => by
    subst e
    refine tM_bind (P := fun c r => Post X.K ct W RQ c σ Q r) Post.pk rh rs q fun d h1 a v hx e1 rh1 rs1 r1 q1 => ?_
    cases r1
    cases a with
    | true => exact ⟨d, h1, as, rfl, rh1, rs1, q1⟩
    | false => exact q1 d _ rfl (.refl d) rh1 rfl
theorem qw_or (ha : QT ct X W a tA) (hb : QW ct X W (.BoolOp .Or (b :: rest) pos) tB') : QW ct X W (.BoolOp .Or (a :: b :: rest) pos) (Mi.tOr tA tB') :=
  PW.imp (pw_or ha hb) fun σ H Q ⟨c, h, as, e, rh, rs, q⟩ => by
    subst e
    refine tM_bind (P := fun c r => Post X.K ct W RQ c σ Q r) Post.pk rh rs q fun d h1 a v hx e1 rh1 rs1 r1 q1 => ?_
    cases r1
    cases a with
    | true => exact q1 d _ rfl (.refl d) rh1 rfl
    | false => exact ⟨d, h1, as, rfl, rh1, rs1, q1⟩
theorem qt_w (h : QW ct X W e tA) : QT ct X W e tA := h.pt
theorem qt_not (ha : QT ct X W a tA) : QT ct X W (.UnaryOp .Not a pos) (Mi.tNot tA) :=
  PT.imp (pt_not ha) fun σ H Q ⟨c, h, as, e, rh, rs, q⟩ => by
    subst e
    refine tM_bind (P := fun c r => Post X.K ct W RQ c σ Q r) Post.pk rh rs q fun d h1 a v hx e1 rh1 rs1 r1 q1 => ?_
    cases r1
    exact q1 d _ rfl (.refl d) rh1 rfl
theorem q_one {op} (h : QE ct X W a ma) : QE ct X W (.BoolOp op [a] pos) ma := pe_one h
theorem q_and (ha : QE ct X W a ma) (hb : QE ct X W (.BoolOp .And (b :: rest) pos) mb) : QE ct X W (.BoolOp .And (a :: b :: rest) pos) (Mi.eAnd ma mb) :=
  PE.imp (pe_and ha hb) fun σ H Q ⟨c, h, as, e, rh, rs, q⟩ => by
    subst e
    refine tM_bind (P := fun c r => Post X.K ct W (RE X.K) c σ Q r) Post.pk rh rs q fun d h1 a v hx e1 rh1 rs1 r1 q1 => ?_
    split at q1
    · rw [RE, rep_bl] at r1
      exact ⟨true, r1, by rw [if_pos rfl]; exact ⟨d, h1, as, rfl, rh1, rs1, q1⟩⟩
    · rw [RE, rep_bl] at r1
      exact ⟨false, r1, by rw [if_neg Bool.false_ne_true]; exact q1 d _ rfl (.refl d) rh1 (by rw [RE, rep_bl])⟩
    · exact q1.elim
theorem q_or (ha : QE ct X W a ma) (hb : QE ct X W (.BoolOp .Or (b :: rest) pos) mb) : QE ct X W (.BoolOp .Or (a :: b :: rest) pos) (Mi.eOr ma mb) :=
  PE.imp (pe_or ha hb) fun σ H Q ⟨c, h, as, e, rh, rs, q⟩ => by
    subst e
    refine tM_bind (P := fun c r => Post X.K ct W (RE X.K) c σ Q r) Post.pk rh rs q fun d h1 a v hx e1 rh1 rs1 r1 q1 => ?_
    split at q1
    · rw [RE, rep_bl] at r1
      exact ⟨true, r1, by rw [if_pos rfl]; exact q1 d _ rfl (.refl d) rh1 (by rw [RE, rep_bl])⟩
    · rw [RE, rep_bl] at r1
      exact ⟨false, r1, by rw [if_neg Bool.false_ne_true]; exact ⟨d, h1, as, rfl, rh1, rs1, q1⟩⟩
    · exact q1.elim
theorem q_not (ha : QE ct X W a ma) : QE ct X W (.UnaryOp .Not a pos) (Mi.eNot ma) :=
  PE.imp (pe_not ha) fun σ H Q ⟨c, h, as, e, rh, rs, q⟩ => by
    subst e
    refine tM_bind (P := fun c r => Post X.K ct W (RE X.K) c σ Q r) Post.pk rh rs q fun d h1 a v hx e1 rh1 rs1 r1 q1 => ?_
    split at q1
    · rw [RE, rep_bl] at r1
      exact ⟨_, r1, q1 d _ rfl (.refl d) rh1 (by rw [RE, rep_bl])⟩
    · exact q1.elim
theorem q_ifExp {t : Expr} (hc : QT ct X W t tA) (ha : QE ct X W a ma) (hb : QE ct X W b mb) : QE ct X W (.IfExp t a b pos) (Mi.eIf tA ma mb) :=
  PE.imp (pe_ifExp hc ha hb) fun σ H Q ⟨c, h, as, e, rh, rs, q⟩ => by
    subst e
    refine tM_bind (P := fun c r => Post X.K ct W (RE X.K) c σ Q r) Post.pk rh rs q fun d h1 a v hx e1 rh1 rs1 r1 q1 => ?_
    cases r1
    cases a with
    | true => exact ⟨d, h1, as, rfl, rh1, rs1, q1⟩
    | false => exact ⟨d, h1, as, rfl, rh1, rs1, q1⟩
theorem use_chain {K : Fg} {σ : St} {H : Hp} {Q : VK} {f g : AV → AV → Mi.M AV} (hf : Nx2 f) (hg : Nx2 g) (q : tM K ct W (RE K) (Mi.eChain f g ma mb mc) σ H Q) :
    tChain (oM2 K f) (oM2 K g) (tM K ct W (RE K) ma) (tM K ct W (RE K) mb) (tM K ct W (RE K) mc) σ H Q := by
  obtain ⟨c, h, as, e, rh, rs, q⟩ := q
  subst e
  refine tM_bind (P := fun c r => Post K ct W (RE K) c σ Q r) Post.pk rh rs q fun d h1 a v hx e1 rh1 rs1 r1 q1 => ?_
  refine tM_bind (P := fun c r => Post K ct W (RE K) c σ Q r) Post.pk rh1 rs1 q1 fun d2 h2 b w hx2 e2 rh2 rs2 r2 q2 => ?_
  refine ⟨d2, h2, a, b, rfl, rh2, r1.ext e2, r2, ?_⟩
  cases z : f a b h2 with
  | no => rw [z] at q2; exact q2.elim
  | ex x h3 => exact absurd z (hf a b h2 x h3)
  | ok a3 h3 =>
    rw [z] at q2
    intro d3 v3 hx3 e3 rh3 r3
    have q3 := Post.mono hx3 e3 q2
    dsimp only [Mi.Res.bind_ok] at q3
    split at q3
    · rw [rep_bl] at r3
      refine ⟨true, r3, ?_⟩
      rw [if_pos rfl]
      refine tM_bind (P := fun c r => Post K ct W (RE K) c σ Q r) Post.pk rh3 (rs2.ext e3) q3 fun d4 h4 a4 v4 hx4 e4 rh4 rs4 r4 q4 => ?_
      exact ⟨d4, h4, b, a4, rfl, rh4, (r2.ext e3).ext e4, r4, q4.pv (hg b a4 h4)⟩
    · rw [rep_bl] at r3
      refine ⟨false, r3, ?_⟩
      rw [if_neg Bool.false_ne_true]
      exact q3 d3 _ rfl (.refl d3) rh3 (by rw [RE, rep_bl])
    · exact q3.elim
theorem q_chain {op op' : CmpOp} {f g : AV → AV → Mi.M AV} {c : Expr} (ho : OpR X (compareOp op) (oM2 X.K f)) (hf : Nx2 f) (ho' : OpR X (compareOp op') (oM2 X.K g)) (hg : Nx2 g) (ha : QE ct X W a ma) (hb : QE ct X W b mb) (hc : QE ct X W c mc)
    (hm : lastMarks [op, op'] [b, c] = false := by with_unfolding_all rfl) : QE ct X W (.Compare a [op, op'] [b, c] pos) (Mi.eChain f g ma mb mc) :=
  PE.imp (pe_chain ho ho' ha hb hc hm) fun σ H Q h => use_chain hf hg h
theorem qt_chain {op op' : CmpOp} {f g : AV → AV → Mi.M AV} {c : Expr} (ho : OpR X (compareOp op) (oM2 X.K f)) (hf : Nx2 f) (ho' : OpR X (compareOp op') (oM2 X.K g)) (hg : Nx2 g) (ha : QE ct X W a ma) (hb : QE ct X W b mb) (hc : QE ct X W c mc)
    (hm : lastMarks [op, op'] [b, c] = false := by with_unfolding_all rfl) : QT ct X W (.Compare a [op, op'] [b, c] pos) (Mi.tB (Mi.eChain f g ma mb mc)) :=
  PT.imp (pt_chain ho ho' ha hb hc hm) fun σ H Q h => use_chain hf hg (use_test h)
/-! arguments, displays -/
variable {m : Mi.A}
theorem qa_nil : QA ct X W [] Mi.aNil := PA.imp pa_nil fun σ H Q ⟨c, h, as, e, rh, rs, q⟩ => by
  subst e
  exact q c _ rfl (.refl c) rh (by rw [RA, repL_nil])
theorem qa_cons (ha : QE ct X W e me) (hr : QA ct X W es m) (hs : starEach (e :: es) X.env = (false, eval e X.env) :: starEach es X.env := by rfl) : QA ct X W (e :: es) (Mi.aCons me m) :=
  PA.imp (pa_cons ha hr hs) fun σ H Q ⟨c, h, as, e, rh, rs, q⟩ => by
    subst e
    refine tM_bind (P := fun c r => Post X.K ct W (RA X.K) c σ Q r) Post.pk rh rs q fun d h1 a v hx e1 rh1 rs1 r1 q1 => ?_
    refine tM_bind (P := fun c r => Post X.K ct W (RA X.K) c σ Q r) Post.pk rh1 rs1 q1 fun d2 h2 b w hx2 e2 rh2 rs2 r2 q2 => ?_
    exact q2 d2 _ rfl (.refl d2) rh2 (RepL.cons (r1.ext e2) r2)
theorem q_tup {x1} (h : QA ct X W es m) : QE ct X W (.Tuple es x1 pos) (Mi.eTup m) :=
  PE.imp (pe_tup h) fun σ H Q ⟨c, h, as, e, rh, rs, q⟩ => by
    subst e
    refine tM_bind (P := fun c r => Post X.K ct W (RE X.K) c σ Q r) Post.pk rh rs q fun d h1 a v hx e1 rh1 rs1 r1 q1 => ?_
    split at q1
    · rename_i hl
      exact ⟨by rw [← RepL.length r1, line_eq]; exact hl, fun p hp => PV.tup (K := X.K) (h := h1) q1 rh1 r1 hp⟩
    · exact q1.elim
theorem q_lst (h : QA ct X W es m) : QE ct X W (.List es pos) (Mi.eLst m) :=
  PE.imp (pe_lst h) fun σ H Q ⟨c, h, as, e, rh, rs, q⟩ => by
    subst e
    refine tM_bind (P := fun c r => Post X.K ct W (RE X.K) c σ Q r) Post.pk rh rs q fun d h1 a v hx e1 rh1 rs1 r1 q1 => ?_
    split at q1
    · rename_i hl
      exact ⟨by rw [← RepL.length r1, line_eq]; exact hl, fun p hp => PV.lst (K := X.K) (h := h1) q1 rh1 r1 hp⟩
    · exact q1.elim
theorem q_lstC (h : QA ct X W es m) : QE ct X W (.List es pos) (Mi.eLstC m) :=
  PE.imp (pe_lst h) fun σ H Q ⟨c, h, as, e, rh, rs, q⟩ => by
    subst e
    refine tM_bind (P := fun c r => Post X.K ct W (RE X.K) c σ Q r) Post.pk rh rs q fun d h1 a v hx e1 rh1 rs1 r1 q1 => ?_
    split at q1
    · rename_i hl
      exact ⟨by rw [← RepL.length r1, line_eq]; exact hl, fun p hp => PV.cell (K := X.K) (h := h1) q1 rh1 r1 hp⟩
    · exact q1.elim
theorem q_dic : QE ct X W (.Dict [] [] pos) (Mi.eDic0 false) :=
  PE.imp pe_dnewK fun σ H Q ⟨c, h, as, e, rh, rs, q⟩ => by
    subst e
    exact fun p hp => PV.dict (K := X.K) (h := h) q rh hp
theorem q_dicT : QE ct X W (.Dict [] [] pos) (Mi.eDic0 true) :=
  PE.imp pe_dnewT fun σ H Q ⟨c, h, as, e, rh, rs, q⟩ => by
    subst e
    exact fun p hp => PV.dictT (K := X.K) (h := h) q rh hp
/-! subscripts, slices -/
theorem q_ix (hu : X.A.units + 1 < cLine) (ha : QE ct X W a ma) (hb : QE ct X W b mb) (hs : PlainIx b) : QE ct X W (.Subscript a b pos) (Mi.eOp2 Mi.oIx ma mb) :=
  PE.imp (pe_ix (ix_M hu) ha hb hs) fun σ H Q h => use_op2 nx_ix h
theorem qo_none : QO ct X W none Mi.oNo := PO.imp po_none fun σ H Q ⟨c, h, as, e, rh, rs, q⟩ => by
  subst e
  exact q c _ rfl (.refl c) rh rfl
theorem qo_some (h : QE ct X W e me) : QO ct X W (some e) (Mi.oAt me) := PO.imp (po_some h) fun σ H Q ⟨c, h, as, e, rh, rs, q⟩ => by
  subst e
  refine tM_bind (P := fun c r => Post X.K ct W RQ c σ Q r) Post.pk rh rs q fun d h1 a v hx e1 rh1 rs1 r1 q1 => ?_
  split at q1
  · rw [RE, rep_int] at r1
    exact ⟨_, r1, q1 d _ rfl (.refl d) rh1 rfl⟩
  · exact q1.elim
theorem nx_sl : ∀ x lo hi h e h', Mi.oSl x lo hi h ≠ .ex e h' := by
  intro x lo hi h e h' z
  unfold Mi.oSl at z
  repeat (first | split at z | cases z)
theorem q_slice {lo hi : Option Expr} {ml mh : Mi.O} {p2 : Pos} (he : QE ct X W e me) (hl : QO ct X W lo ml) (hu : QO ct X W hi mh) : QE ct X W (.Subscript e (.Slice lo hi none p2) pos) (Mi.eSl me ml mh) :=
  PE.imp (pe_slice sl_M he hl hu) fun σ H Q ⟨c, h, as, e, rh, rs, q⟩ => by
    subst e
    refine tM_bind (P := fun c r => Post X.K ct W (RE X.K) c σ Q r) Post.pk rh rs q fun d h1 a v hx e1 rh1 rs1 r1 q1 => ?_
    refine tM_bind (P := fun c r => Post X.K ct W (RE X.K) c σ Q r) Post.pk rh1 rs1 q1 fun d2 h2 b w hx2 e2 rh2 rs2 r2 q2 => ?_
    refine tM_bind (P := fun c r => Post X.K ct W (RE X.K) c σ Q r) Post.pk rh2 rs2 q2 fun d3 h3 b3 w3 hx3 e3 rh3 rs3 r3 q3 => ?_
    cases r2
    cases r3
    exact ⟨d3, h3, a, rfl, rh3, (r1.ext e2).ext e3, q3.pv (nx_sl a b b3 h3)⟩
/-! calls of built-ins -/
theorem use_call {K : Fg} {σ : St} {H : Hp} {Q : VK} {f : List AV → Mi.M AV} (hf : NxN f) (h : tM K ct W (RE K) (Mi.eCall f m) σ H Q) : tM K ct W (RA K) m σ H fun xs H1 => oMN K f xs H1 Q := by
  obtain ⟨c, h, as, e, rh, rs, q⟩ := h
  subst e
  refine tM_bind (P := fun c r => Post K ct W (RE K) c σ Q r) Post.pk rh rs q fun d h1 a v hx e1 rh1 rs1 r1 q1 => ?_
  exact ⟨d, h1, a, rfl, rh1, r1, q1.pv (hf a h1)⟩
theorem q_callB {f : List AV → Mi.M AV} {id : String} {x : Str} {p : Pos} (hc : CallR X (.builtin id) (oMN X.K f)) (hf : NxN f) (hg : Gl X x) (hm : X.mg x = none) (hv : bootBuiltins x = some (.builtin id)) (ha : QA ct X W (e :: es) m) (hn : x ≠ "__name__" := by decide) (hdb : (x == ("__debug__" : Str)) = false := by decide)
    (he : starEach (e :: es) X.env = (false, eval e X.env) :: starEach es X.env := by rfl) (hpl : (backTo pos (starEach es X.env)).any (·.1) = false := by rfl) : QE ct X W (.Call (.Name x p) (e :: es) [] pos) (Mi.eCall f m) :=
  PE.imp (pe_callB hc hg hm hv ha hn hdb he hpl) fun σ H Q h => use_call hf h
theorem q_callTy {f : List AV → Mi.M AV} {T : String} {x : Str} {p : Pos} (hc : CallR X (.type T) (oMN X.K f)) (hf : NxN f) (hg : Gl X x) (hm : X.mg x = none) (hv : bootBuiltins x = some (.type T)) (ha : QA ct X W (e :: es) m) (hn : x ≠ "__name__" := by decide) (hdb : (x == ("__debug__" : Str)) = false := by decide)
    (he : starEach (e :: es) X.env = (false, eval e X.env) :: starEach es X.env := by rfl) (hpl : (backTo pos (starEach es X.env)).any (·.1) = false := by rfl) : QE ct X W (.Call (.Name x p) (e :: es) [] pos) (Mi.eCall f m) :=
  PE.imp (pe_callTy hc hg hm hv ha hn hdb he hpl) fun σ H Q h => use_call hf h
/-- isinstance(e, T), T a built-in type by its name -/
theorem q_isTy {t : String} {y : Str} {p p2 : Pos} (ht : t = "int" ∨ t = "bool" ∨ t = "str" ∨ t = "tuple" ∨ t = "list" ∨ t = "dict") (hg : Gl X "isinstance") (hm : X.mg "isinstance" = none) (hgy : Gl X y) (hmy : X.mg y = none) (hvy : bootBuiltins y = some (.type t)) (ha : QE ct X W e me)
    (hny : y ≠ "__name__" := by decide) (hdby : (y == ("__debug__" : Str)) = false := by decide)
    (he : starEach (e :: [.Name y p2]) X.env = (false, eval e X.env) :: starEach [.Name y p2] X.env := by rfl) (he2 : starEach [.Name y p2] X.env = (false, eval (.Name y p2) X.env) :: starEach [] X.env := by rfl)
    (hpl : (backTo pos (starEach [.Name y p2] X.env)).any (·.1) = false := by rfl) : QE ct X W (.Call (.Name "isinstance" p) [e, .Name y p2] [] pos) (Mi.eOp1 (Mi.oIsTy t) me) :=
  PE.imp (pe_callB call_isiM hg hm (by decide +kernel) (pa_cons ha (pa_cons (pe_bltn hgy hmy hvy (v := .ty t) rfl hny hdby) pa_nil he2) he) (by decide) (by decide) he hpl) fun σ H Q h => by
    obtain ⟨c, h, as, e, rh, rs, q⟩ := h
    subst e
    refine tM_bind (P := fun c r => Post X.K ct W (RE X.K) c σ Q r) Post.pk rh rs q fun d h1 a v hx e1 rh1 rs1 r1 q1 => ?_
    exact ⟨v, t, rfl, ht, d, h1, a, rfl, rh1, r1, q1.pv (nx_isTy t a h1)⟩
/-! methods -/
/-- the receiver's type, by value -/
abbrev tyA := @Mi.tyA
theorem ty_at {K : Fg} {c : Cn} {h : AH} {x : AV} {v : V} {T : String} (rh : RepH K c h) (r : Rep K c x v) (e : tyA T h x = true) : tyV K T v c.H := by
  cases x with
  | str s => rw [rep_str] at r; subst r; exact eq_of_beq e
  | lst l =>
    rw [rep_lst] at r
    obtain ⟨p, vs, rfl, e2, _⟩ := r
    exact .inl ⟨eq_of_beq e, vs, e2.sq⟩
  | cel n =>
    rw [rep_cel] at r
    obtain ⟨p, rfl, e2⟩ := r
    have e : (match h[n]? with | some (.lst _) => T == "list" | some (.dic _ _) => T == "dict" | none => false) = true := e
    split at e
    · rename_i l hn
      obtain ⟨vs, e3, _⟩ := cell_lst rh e2 hn
      exact .inl ⟨eq_of_beq e, vs, .inl (.inl e3)⟩
    · rename_i t kvs hn
      have z := dic_at rh e2 hn
      cases t with
      | false =>
        obtain ⟨ks, e3, _⟩ := z
        exact .inr (.inr (.inl ⟨eq_of_beq e, .inl ⟨ks, e3⟩⟩))
      | true =>
        obtain ⟨ks, e3, _⟩ := z
        exact .inr (.inr (.inl ⟨eq_of_beq e, .inr ⟨ks, e3⟩⟩))
    · cases e
  | _ => cases e
/-- the type stays behind an extension in which the method still answers -/
def Ty1 (T : String) (f : AV → Mi.M AV) : Prop := ∀ x h, tyA T h x = true ∨ f x h = .no
theorem q_m0 {f : AV → Mi.M AV} {T id : String} {name : Str} {o : Expr} {mo : Mi.E} {apos cpos : Pos} (pa : PlainAttrs T) (slot : Slot T name id) (hty : typeOf (.builtin id) = pure (.type "method_descriptor")) (hm : MtR X id (oMt0 X.K f)) (hf : Nx1 f) (ht : Ty1 T f) (ho : QE ct X W o mo)
    (hbase : attributeBase o name X.env (eval o X.env) = eval o X.env := by rfl) (hline : (apos.endLine == cpos.line) = true := by rfl) : QE ct X W (.Call (.Attribute o name apos) [] [] cpos) (Mi.eOp1 f mo) :=
  PE.imp (pe_bm0 pa slot hty hm ho hbase hline) fun σ H Q ⟨c, h, as, e, rh, rs, q⟩ => by
    subst e
    refine tM_bind (P := fun c r => Post X.K ct W (RE X.K) c σ Q r) Post.pk rh rs q fun d h1 a v hx e1 rh1 rs1 r1 q1 => ?_
    rcases ht a h1 with z | z
    · exact ⟨ty_at rh1 r1 z, rfl, d, h1, a, rfl, rh1, r1, q1.pv (hf a h1)⟩
    · rw [z] at q1
      exact q1.elim
theorem q_m1 {f : AV → AV → Mi.M AV} {T id : String} {name : Str} {o : Expr} {mo : Mi.E} {apos cpos : Pos} (pa : PlainAttrs T) (slot : Slot T name id) (hty : typeOf (.builtin id) = pure (.type "method_descriptor")) (hm : MtR X id (oMt1 X.K f)) (hf : Nx2 f) (ho : QE ct X W o mo) (ha : QE ct X W e me)
    (hbase : attributeBase o name X.env (eval o X.env) = eval o X.env := by rfl)
    (hfew : ((backTo cpos (starEach (e :: []) X.env)).all (fun x => !x.1) && (backToKw cpos (keywordEach [] X.env)).all (fun x => x.1.isSome)
      && decide ((e :: ([] : List Expr)).length + ([] : List Keyword).length + (if ([] : List Keyword).isEmpty then 0 else 1) < 30)) = true := by rfl)
    (hline : (apos.endLine == cpos.line) = true := by rfl) (hs : starEach (e :: []) X.env = (false, eval e X.env) :: starEach [] X.env := by rfl) (hplain : (backTo cpos (starEach [] X.env)).any (·.1) = false := by rfl) :
    QE ct X W (.Call (.Attribute o name apos) [e] [] cpos) (Mi.eM1 T f mo me) :=
  PE.imp (pe_bm pa slot hty hm ho (pa_cons ha pa_nil hs) hbase hfew hline hs hplain) fun σ H Q ⟨c, h, as, e, rh, rs, q⟩ => by
    subst e
    refine tM_bind (P := fun c r => Post X.K ct W (RE X.K) c σ Q r) Post.pk rh rs q fun d h1 a v hx e1 rh1 rs1 r1 q1 => ?_
    split at q1
    · rename_i z
      refine ⟨ty_at rh1 r1 z, ?_⟩
      refine tM_bind (P := fun c r => Post X.K ct W (RE X.K) c σ Q r) Post.pk rh1 rs1 q1 fun d2 h2 b w hx2 e2 rh2 rs2 r2 q2 => ?_
      exact ⟨w, rfl, d2, h2, a, b, rfl, rh2, r1.ext e2, r2, q2.pv (hf a b h2)⟩
    · exact q1.elim
end
end MiS

end

section
set_option maxHeartbeats 4000000
namespace MiS
open PySem PySem.Spec L2
open PyProof.Rows hiding St
open Mi (AV HC AH AX Res AS RS)

/-! ### statements -/
def PostS (K : Fg) (ct : Ct) (W : WX) (D : Ends) (c : Cn) : RS → Prop
  | .nx as h => ∀ (d : Cn) (σ : St), d.X = c.X → Ext c d → RepH K d h → RepS K ct d as σ → D.nx σ d.H
  | .rt a h => ∀ (d : Cn) (v : V), d.X = c.X → Ext c d → RepH K d h → Rep K d a v → D.rt v d.H
  | .bk as h => ∀ (d : Cn) (σ : St), d.X = c.X → Ext c d → RepH K d h → RepS K ct d as σ → D.bk σ d.H
  | .ct as h => ∀ (d : Cn) (σ : St), d.X = c.X → Ext c d → RepH K d h → RepS K ct d as σ → D.ct σ d.H
  | .ex e as h => ∀ (d : Cn) (σ : St) (cls : Value) (od : Option Addr), d.X = c.X → Ext c d → RepH K d h → RepS K ct d as σ → RepX K ct d cls od e → W cls od σ d.H
  | .no => False
theorem PostS.mono {K : Fg} {ct : Ct} {W : WX} {D : Ends} {c d : Cn} {r : RS} (hx : d.X = c.X) (e : Ext c d) (h : PostS K ct W D c r) : PostS K ct W D d r := by
  cases r with
  | nx as h' => exact fun f σ x1 e1 r1 q1 => h f σ (x1.trans hx) (e.trans e1) r1 q1
  | rt a h' => exact fun f σ x1 e1 r1 q1 => h f σ (x1.trans hx) (e.trans e1) r1 q1
  | bk as h' => exact fun f σ x1 e1 r1 q1 => h f σ (x1.trans hx) (e.trans e1) r1 q1
  | ct as h' => exact fun f σ x1 e1 r1 q1 => h f σ (x1.trans hx) (e.trans e1) r1 q1
  | ex x as h' => exact fun f σ cls od x1 e1 r1 s1 q1 => h f σ cls od (x1.trans hx) (e.trans e1) r1 s1 q1
  | no => exact h
def sM (K : Fg) (ct : Ct) (W : WX) (m : Mi.S) : TS := fun D σ H => ∃ (c : Cn) (h : AH) (as : AS), c.H = H ∧ RepH K c h ∧ RepS K ct c as σ ∧ PostS K ct W D c (m as h)
theorem PostS.pk {K : Fg} {ct : Ct} {W : WX} {D : Ends} {c : Cn} {as : AS} {σ : St} {α : Type} {f : α → AH → RS} (rs : RepS K ct c as σ) : Pk K ct W σ c (fun c (r : Res α) => PostS K ct W D c (r.st as f)) :=
  ⟨fun _ _ hx e h => PostS.mono hx e h, fun _ _ h d cls od x1 e1 r1 q1 => h d σ cls od x1 e1 r1 (rs.ext e1) q1, fun h => h⟩
/-- a statement's expression, then the rest -/
theorem st_bind {K : Fg} {ct : Ct} {W : WX} {α β : Type} {R : Rl α β} {m : AS → AH → Res α} {D : Ends} {c : Cn} {h : AH} {as : AS} {σ : St} {f : α → AH → RS} {Q : β → Hp → Prop} (rh : RepH K c h) (rs : RepS K ct c as σ) (hp : PostS K ct W D c ((m as h).st as f))
    (k : ∀ (d : Cn) (h1 : AH) (a : α) (b : β), d.X = c.X → Ext c d → RepH K d h1 → RepS K ct d as σ → R d a b → PostS K ct W D d (f a h1) → Q b d.H) : tM K ct W R m σ c.H Q := by
  refine ⟨c, h, as, rfl, rh, rs, ?_⟩
  cases e : m as h with
  | ok a h1 =>
    rw [e] at hp
    exact fun d b hx e1 r1 q1 => k d h1 a b hx e1 r1 (rs.ext e1) q1 (PostS.mono hx e1 hp)
  | ex x h1 =>
    rw [e] at hp
    exact fun d cls od hx e1 r1 q1 => hp d σ cls od hx e1 r1 (rs.ext e1) q1
  | no =>
    rw [e] at hp
    exact hp.elim
section
variable (ct : Ct) (X : Cx) (W : WX)
abbrev QS (st : Stmt) (m : Mi.S) : Prop := PS X st (sM X.K ct W m)
abbrev QSs (st : List Stmt) (m : Mi.S) : Prop := PSs X st (sM X.K ct W m)
end
/-- targets -/
def PostG (K : Fg) (ct : Ct) (Q : St → Hp → Prop) (c : Cn) : Option (AS × AH) → Prop
  | some (as, h) => ∀ (d : Cn) (σ : St), d.X = c.X → Ext c d → RepH K d h → RepS K ct d as σ → Q σ d.H
  | none => False
def gM (K : Fg) (ct : Ct) (m : Mi.G) : TG := fun v σ H Q => ∃ (c : Cn) (h : AH) (as : AS) (a : AV), c.H = H ∧ RepH K c h ∧ RepS K ct c as σ ∧ Rep K c a v ∧ PostG K ct Q c (m a as h)
def gsM (K : Fg) (ct : Ct) (ms : List Mi.G) : TGs := fun vs σ H Q => ∃ (c : Cn) (h : AH) (as : AS) (al : List AV), c.H = H ∧ RepH K c h ∧ RepS K ct c as σ ∧ RepL K c al vs ∧ PostG K ct Q c (Mi.gAll ms al as h)
theorem PostG.mono {K : Fg} {ct : Ct} {Q : St → Hp → Prop} {c d : Cn} {r : Option (AS × AH)} (hx : d.X = c.X) (e : Ext c d) (h : PostG K ct Q c r) : PostG K ct Q d r := by
  match r with
  | some (as, h') => exact fun f σ x1 e1 r1 q1 => h f σ (x1.trans hx) (e.trans e1) r1 q1
  | none => exact h
section
variable (ct : Ct) (X : Cx)
abbrev QG (e : Expr) (m : Mi.G) : Prop := PG X e (gM X.K ct m)
abbrev QGs (e : List Expr) (ms : List Mi.G) : Prop := PGs X e (gsM X.K ct ms)
end
section
variable {ct : Ct} {X : Cx} {W : WX} {a b e : Expr} {es : List Expr} {ma mb mc me : Mi.E} {pos pos' : Pos}
theorem qg_nm {i : Nat} {x : Str} (hN : X.N.Nodup) (hi : X.N[i]? = some x) (hx : Loc X.env.scope x) (hf : X.fn x = true ∨ X.env.scope.names.lookup x = some .local := by first | exact .inl rfl | exact .inr rfl | assumption) (hk : ct.ok i = true := by rfl) : QG ct X (.Name x pos) (Mi.gNm i) :=
  PG.imp (pg_name hN hi hx hf) fun v σ H Q ⟨c, h, as, a, e, rh, rs, r, q⟩ => by
    subst e
    exact q c _ rfl (.refl c) rh (rs.set i hk r)
theorem qgs_nil : QGs ct X [] [] := PGs.imp pgs_nil fun vs σ H Q ⟨c, h, as, al, e, rh, rs, r, q⟩ => by
  subst e
  cases al with
  | nil =>
    rw [repL_nil] at r
    exact ⟨r, q c _ rfl (.refl c) rh rs⟩
  | cons _ _ => exact q.elim
theorem qgs_cons {mg : Mi.G} {ms : List Mi.G} (h1 : QG ct X e mg) (h2 : QGs ct X es ms) (hs : (assignEach (e :: es) X.env).map (·.2) = assign e X.env :: (assignEach es X.env).map (·.2) := by rfl) : QGs ct X (e :: es) (mg :: ms) :=
  PGs.imp (pgs_cons h1 h2 hs) fun vs σ H Q ⟨c, h, as, al, e, rh, rs, r, q⟩ => by
    subst e
    cases al with
    | nil => exact q.elim
    | cons x xs =>
      rw [repL_cons] at r
      obtain ⟨v, w, rfl, r1, r2⟩ := r
      refine ⟨v, w, rfl, c, h, as, x, rfl, rh, rs, r1, ?_⟩
      unfold Mi.gAll at q
      split at q
      · rename_i s1 h1 e1
        rw [e1]
        exact fun d σ1 hx e2 rh1 rs1 => ⟨d, h1, s1, xs, rfl, rh1, rs1, RepL.ext e2 _ r2, q.mono hx e2⟩
      · exact q.elim
theorem pg_or {t u : TG} (h1 : PG X e t) (h2 : PG X e u) : PG X e (fun v σ H Q => t v σ H Q ∨ u v σ H Q) := ⟨fun pins s σ H v w Q I r h => h.elim (h1.run pins s σ H v w Q I r) (h2.run pins s σ H v w Q I r)⟩
theorem qg_tp {k : Nat} {ms : List Mi.G} (hc : X.calm = true) (h : QGs ct X es ms) (hn : (assignEach es X.env).length = ms.length := by rfl) (hst : (assignEach es X.env).findIdx? (·.1) = none := by rfl) : QG ct X (.Tuple es k pos) (Mi.gTp ms) :=
  PG.imp (pg_or (pg_tup hc h hn hst) (pg_lst hc h hn hst)) fun v σ H Q ⟨c, h, as, a, e, rh, rs, r, q⟩ => by
    subst e
    have len : ∀ (ms : List Mi.G) (xs : List AV) (as : AS) (h : AH), PostG X.K ct Q c (Mi.gAll ms xs as h) → xs.length = ms.length := by
      intro ms
      induction ms with
      | nil =>
        intro xs as h q
        cases xs with
        | nil => rfl
        | cons _ _ => exact q.elim
      | cons g gs ih =>
        intro xs as h q
        cases xs with
        | nil => exact q.elim
        | cons x xs =>
          unfold Mi.gAll at q
          split at q
          · simp [ih xs _ _ q]
          · exact q.elim
    unfold Mi.gTp at q
    split at q
    · rename_i xs
      rw [rep_tup] at r
      obtain ⟨p, vs, rfl, e2, e3⟩ := r
      exact .inl ⟨p, vs, rfl, .inl (.inl e2), by rw [← e3.length]; exact len _ _ _ _ q, c, h, as, xs, rfl, rh, rs, e3, q⟩
    · split at q
      · rename_i xs e1
        obtain ⟨p, vs, rfl, e2, e3⟩ := lst_at rh r e1
        exact .inr ⟨p, vs, rfl, .inl (.inl e2), by rw [← e3.length]; exact len _ _ _ _ q, c, h, as, xs, rfl, rh, rs, e3, q⟩
      · exact q.elim
/-! blocks -/
variable {s t : Mi.S} {st : Stmt} {rest : List Stmt}
theorem qss_nil : QSs ct X W [] Mi.sNx := PSs.imp pss_nil fun D σ H ⟨c, h, as, e, rh, rs, q⟩ => by
  subst e
  exact q c σ rfl (.refl c) rh rs
theorem qss_one (h : QS ct X W st s) : QSs ct X W [st] s := pss_one h
theorem qss_cons (h1 : QS ct X W st s) (h2 : QSs ct X W rest t) : QSs ct X W (st :: rest) (Mi.sSeq s t) := PSs.imp (pss_cons h1 h2) fun D σ H ⟨c, h, as, e, rh, rs, q⟩ => by
  subst e
  refine ⟨c, h, as, rfl, rh, rs, ?_⟩
  unfold Mi.sSeq at q
  cases z : s as h with
  | nx as1 h1 =>
    rw [z] at q
    exact fun d σ1 hx e1 rh1 rs1 => ⟨d, h1, as1, rfl, rh1, rs1, PostS.mono hx e1 q⟩
  | rt v h1 => rw [z] at q; exact q
  | bk as1 h1 => rw [z] at q; exact q
  | ct as1 h1 => rw [z] at q; exact q
  | ex x as1 h1 => rw [z] at q; exact q
  | no => rw [z] at q; exact q
theorem qs_pass : QS ct X W (.Pass pos) Mi.sNx := PS.imp ps_pass fun D σ H ⟨c, h, as, e, rh, rs, q⟩ => by
  subst e
  exact q c σ rfl (.refl c) rh rs
theorem qs_break : QS ct X W (.Break pos) Mi.sBk := PS.imp ps_break fun D σ H ⟨c, h, as, e, rh, rs, q⟩ => by
  subst e
  exact q c σ rfl (.refl c) rh rs
theorem qs_continue : QS ct X W (.Continue pos) Mi.sCt := PS.imp ps_continue fun D σ H ⟨c, h, as, e, rh, rs, q⟩ => by
  subst e
  exact q c σ rfl (.refl c) rh rs
theorem qs_expr (he : QE ct X W e me) (hs : swapsWith e none pos.line X.env = pure false := by rfl) : QS ct X W (.Expr e pos) (Mi.sDrop me) := PS.imp (ps_expr he hs) fun D σ H ⟨c, h, as, e, rh, rs, q⟩ => by
  subst e
  exact st_bind rh rs q fun d h1 a v hx e1 rh1 rs1 r1 q1 => q1 d σ rfl (.refl d) rh1 rs1
theorem qs_ret (he : QE ct X W e me) : QS ct X W (.Return (some e) pos) (Mi.sRet me) := PS.imp (ps_ret he) fun D σ H ⟨c, h, as, e, rh, rs, q⟩ => by
  subst e
  exact st_bind rh rs q fun d h1 a v hx e1 rh1 rs1 r1 q1 => q1 d v rfl (.refl d) rh1 r1
theorem qs_retN : QS ct X W (.Return none pos) Mi.sRetN := PS.imp ps_retN fun D σ H ⟨c, h, as, e, rh, rs, q⟩ => by
  subst e
  exact q c .non rfl (.refl c) rh (by rw [rep_non])
theorem qs_if {c : Expr} {a b : List Stmt} {tc : Mi.T} (hc : QT ct X W c tc) (ha : QSs ct X W a s) (hb : QSs ct X W b t) : QS ct X W (.If c a b pos) (Mi.sIf tc s t) := PS.imp (ps_if hc ha hb) fun D σ H ⟨c, h, as, e, rh, rs, q⟩ => by
  subst e
  refine st_bind rh rs q fun d h1 a v hx e1 rh1 rs1 r1 q1 => ?_
  cases r1
  cases a with
  | true => exact ⟨d, h1, as, rfl, rh1, rs1, q1⟩
  | false => exact ⟨d, h1, as, rfl, rh1, rs1, q1⟩
theorem use_asg {K : Fg} {mg : Mi.G} {D : Ends} {σ : St} {H : Hp} (h : sM K ct W (Mi.sAsg me mg) D σ H) : tM K ct W (RE K) me σ H fun x H1 => gM K ct mg x σ H1 D.nx := by
  obtain ⟨c, h, as, e, rh, rs, q⟩ := h
  subst e
  refine st_bind rh rs q fun d h1 a v hx e1 rh1 rs1 r1 q1 => ⟨d, h1, as, a, rfl, rh1, rs1, r1, ?_⟩
  cases z : mg a as h1 with
  | none => rw [z] at q1; exact q1.elim
  | some p => rw [z] at q1; exact q1
theorem qs_asg {tg : Expr} {mg : Mi.G} (he : QE ct X W e me) (hg : QG ct X tg mg) (hs : swapsWithSole [tg] e pos.line X.env = pure false := by rfl) (hw : swappedStores [tg] e X.env = pure none := by rfl)
    (h1 : (assignEach [tg] X.env).map (·.2) = [assign tg X.env] := by rfl) : QS ct X W (.Assign [tg] e pos) (Mi.sAsg me mg) := PS.imp (ps_asg he hg hs hw h1) fun D σ H h => use_asg h
/-- name = e -/
theorem qs_set {i : Nat} {x : Str} (hN : X.N.Nodup) (hi : X.N[i]? = some x) (hx : Loc X.env.scope x) (he : QE ct X W e me) (hs : swapsWith e (some (.Name x pos')) pos.line X.env = pure false := by rfl) (hf : X.fn x = true ∨ X.env.scope.names.lookup x = some .local := by first | exact .inl rfl | exact .inr rfl | assumption) (hk : ct.ok i = true := by rfl) :
    QS ct X W (.Assign [.Name x pos'] e pos) (Mi.sAsg me (Mi.gNm i)) := PS.imp (ps_set hN hi hx he hs hf) fun D σ H ⟨c, h, as, e, rh, rs, q⟩ => by
  subst e
  exact st_bind rh rs q fun d h1 a v hx e1 rh1 rs1 r1 q1 => q1 d _ rfl (.refl d) rh1 (rs1.set i hk r1)
theorem qs_par {i j : Nat} {x y : Str} {px py pt : Pos} {kt k2 pt2} (hc : X.calm = true) (hN : X.N.Nodup) (hi : X.N[i]? = some x) (hj : X.N[j]? = some y) (hij : i ≠ j)
    (hx : X.env.scope.names.lookup x = some .local) (hy : X.env.scope.names.lookup y = some .local) (ha : QE ct X W a ma) (hb : QE ct X W b mb)
    (hw : swappedStores [.Tuple [.Name x px, .Name y py] kt pt] (.Tuple [a, b] k2 pt2) X.env = pure (some [x, y]))
    (hs : swapsWithSole [.Tuple [.Name x px, .Name y py] kt pt] (.Tuple [a, b] k2 pt2) pos.line X.env = pure false := by rfl)
    (hs1 : starEach (a :: [b]) X.env = (false, eval a X.env) :: starEach [b] X.env := by rfl) (hs2 : starEach [b] X.env = (false, eval b X.env) :: starEach [] X.env := by rfl) (hki : ct.ok i = true := by rfl) (hkj : ct.ok j = true := by rfl) :
    QS ct X W (.Assign [.Tuple [.Name x px, .Name y py] kt pt] (.Tuple [a, b] k2 pt2) pos) (Mi.sPar i j ma mb) := PS.imp (ps_par hc hN hi hj hij hx hy (pa_cons ha (pa_cons hb pa_nil hs2) hs1) hw hs) fun D σ H ⟨c, h, as, e, rh, rs, q⟩ => by
  subst e
  refine tM_bind (PostS.pk rs) rh rs q fun d h1 a v hx e1 rh1 rs1 r1 q1 => ?_
  refine tM_bind (PostS.pk rs1) rh1 rs1 q1 fun d2 h2 b w hx2 e2 rh2 rs2 r2 q2 => ?_
  exact ⟨v, w, rfl, q2 d2 _ rfl (.refl d2) rh2 ((rs2.set i hki (r1.ext e2)).set j hkj r2)⟩
theorem qs_aug {i : Nat} {x : Str} {op : Operator} {f : AV → AV → Mi.M AV} (hN : X.N.Nodup) (hi : X.N[i]? = some x) (hx : Loc X.env.scope x) (he : QE ct X W e me) (ho : OpR X (inplaceOp op) (oM2 X.K f)) (hn : Nx2 f) (hf : X.fn x = true ∨ X.env.scope.names.lookup x = some .local := by first | exact .inl rfl | exact .inr rfl | assumption) (hk : ct.ok i = true := by rfl) :
    QS ct X W (.AugAssign (.Name x pos') op e pos) (Mi.sAug i f me) := PS.imp (ps_aug hN hi hx he (fun pins s σ H x y v u Q I rx ry h => ho pins s σ H x y v u Q I rx ry h) hf) fun D σ H ⟨c, h, as, e, rh, rs, q⟩ => by
  subst e
  unfold Mi.sAug at q
  split at q
  · rename_i v0 hv
    obtain ⟨w0, h1, h2⟩ := rs.2.1 i v0 hk hv
    refine ⟨w0, h1, ?_⟩
    refine tM_bind (PostS.pk rs) rh rs q fun d h1 a v hx e1 rh1 rs1 r1 q1 => ?_
    refine ⟨d, h1, v0, a, rfl, rh1, h2.ext e1, r1, ?_⟩
    cases z : f v0 a h1 with
    | ok b h3 =>
      rw [z] at q1
      exact fun d2 w hx2 e2 rh2 r2 => q1 d2 _ hx2 e2 rh2 ((rs1.ext e2).set i hk r2)
    | ex x h3 => exact absurd z (hn _ _ _ _ _)
    | no => rw [z] at q1; exact q1.elim
  · exact q.elim
theorem PostS.oSt {K : Fg} {ct : Ct} {W : WX} {D : Ends} {c : Cn} {as : AS} {σ : St} {o : Option AH} (rs : RepS K ct c as σ) (q : PostS K ct W D c (Mi.oSt as o)) : PVs K c (fun H' => D.nx σ H') o := by
  cases o with
  | some h => exact fun d hx e1 rh1 => q d σ hx e1 rh1 (rs.ext e1)
  | none => exact q
/-- o[i] = v -/
theorem qs_setIx {o i : Expr} {mo mi mv : Mi.E} {value : Expr} (hu : X.A.units + 1 < cLine) (hv : QE ct X W value mv) (ho : QE ct X W o mo) (hi : QE ct X W i mi)
    (ha : ∀ v, assign (.Subscript o i pos') X.env v = (do
      let ov ← holding [v] (eval o X.env)
      let iv ← holding [v, ov] (eval i X.env)
      standAt pos'
      holding [v, ov, iv] (setItem ov iv v)
      release [v, ov, iv] []) := by intro _; rfl)
    (hs : swapsWithSole [.Subscript o i pos'] value pos.line X.env = pure false := by rfl) (hw : swappedStores [.Subscript o i pos'] value X.env = pure none := by rfl)
    (h1 : (assignEach [.Subscript o i pos'] X.env).map (·.2) = [assign (.Subscript o i pos') X.env] := by rfl) : QS ct X W (.Assign [.Subscript o i pos'] value pos) (Mi.sSet mv mo mi) :=
  PS.imp (ps_asg hv (pg_sub ho hi (set_M hu) ha) hs hw h1) fun D σ H ⟨c, h, as, e, rh, rs, q⟩ => by
    subst e
    refine tM_bind (PostS.pk rs) rh rs q fun d h1 a v hx e1 rh1 rs1 r1 q1 => ?_
    refine tM_bind (PostS.pk rs1) rh1 rs1 q1 fun d2 h2 b w hx2 e2 rh2 rs2 r2 q2 => ?_
    refine tM_bind (PostS.pk rs2) rh2 rs2 q2 fun d3 h3 k z hx3 e3 rh3 rs3 r3 q3 => ?_
    exact ⟨d3, h3, b, k, a, rfl, rh3, r2.ext e3, r3, (r1.ext e2).ext e3, PostS.oSt rs3 q3⟩
/-- o[i], by values, for o[i] op= e -/
theorem get_M (hu : X.A.units + 1 < cLine) : PGet X (oM2 X.K Mi.oIx) := by
  intro pins s σ H x y v u Q I rx ry ⟨c, h, ax, ay, e, rh, r1, r2, q⟩
  subst e
  have hn63 := line63
  have lst : ∀ (xs : List AV) (vs : List V) (p : Addr) (i : Int), x = .ref p → SqL X.K c.H p vs → RepL X.K c xs vs → ay = .int i → PV X.K c Q (match Mi.atI xs i with | some v => .ok v h | none => .no) →
      wpAny (model X.prog X.w) X.A (getItem v u) (EP X pins σ Q) X.xe s := by
    intro xs vs p i ex hsq hl ei q0
    subst ex ei
    rw [rep_int] at r2
    subst r2
    cases rx
    obtain ⟨t, rfl⟩ := ry
    split at q0
    · rename_i w e
      obtain ⟨z, h1, h2⟩ := hl.atI e
      obtain ⟨its, r, pl, hz⟩ := I.list hsq
      obtain ⟨j, k1, k2, k3, k4, k5⟩ := atI_get h1
      obtain ⟨w', ew, rw'⟩ := r.get k2
      have hlen := r.length
      have fin : EP X pins σ Q w' s := ⟨z, _, I, rw', q0.here rh h2⟩
      by_cases h0 : 0 ≤ i
      · have hj : i.toNat = j := by
          rw [seqIndex_of h0 k5] at k1
          exact Option.some.inj k1
        exact wpAny_getItem_list pl.isList h0 (by omega) (by rw [hj]; simpa using ew) fin
      · have hj : (i + (its.toArray.size : Int)).toNat = j := by
          rw [seqIndex_neg (by omega) k4] at k1
          rw [List.size_toArray, ← hlen]
          exact Option.some.inj k1
        exact wpAny_getItem_list_neg pl.isList (by omega) (by rw [List.size_toArray] <;> omega) (by omega) (by rw [hj]; simpa using ew) fin
    · exact q0.elim
  have tup : ∀ (xs : List AV) (vs : List V) (p : Addr) (i : Int), x = .ref p → SqT X.K c.H p vs → RepL X.K c xs vs → ay = .int i → PV X.K c Q (match Mi.atI xs i with | some v => .ok v h | none => .no) →
      wpAny (model X.prog X.w) X.A (getItem v u) (EP X pins σ Q) X.xe s := by
    intro xs vs p i ex hsq hl ei q0
    subst ex ei
    rw [rep_int] at r2
    subst r2
    cases rx
    obtain ⟨t, rfl⟩ := ry
    split at q0
    · rename_i w e
      obtain ⟨z, h1, h2⟩ := hl.atI e
      obtain ⟨its, r, pl, hz⟩ := I.tuple hsq
      obtain ⟨j, k1, k2, k3, k4, k5⟩ := atI_get h1
      obtain ⟨w', ew, rw'⟩ := r.get k2
      have hlen := r.length
      have fin : EP X pins σ Q w' s := ⟨z, _, I, rw', q0.here rh h2⟩
      exact getItem_tuple (j := j) pl (by omega) (by omega) (by rw [List.size_toArray, ← hlen]; exact k1) (by simpa using ew) fin
    · exact q0.elim
  cases ax with
  | str t =>
    cases ay with
    | int i =>
      rw [rep_str] at r1
      rw [rep_int] at r2
      subst r1 r2
      obtain ⟨t', rfl⟩ := rx
      obtain ⟨t2, rfl⟩ := ry
      unfold Mi.oIx at q
      dsimp only at q
      split at q
      · rename_i hl
        rw [← line_eq] at hl
        split at q
        · rename_i d e
          rw [atI_eq] at e
          obtain ⟨j, k1, k2, k3, k4, k5⟩ := atI_get e
          refine getItem_str (c := d) ?_ ?_ ⟨.str ⟨#[d]⟩, _, I.tok _, ⟨_, rfl⟩, q.here rh (by rw [rep_str])⟩
          · have e1 : decide (i < -(2 ^ 63 : Int)) = false := decide_eq_false (by omega)
            have e2 : decide (i ≥ 2 ^ 63) = false := decide_eq_false (by omega)
            rw [e1, e2, Bool.or_false]
          · rw [str_len, k1]
            simpa using k2
        · exact q.elim
      · exact q.elim
    | _ => exact q.elim
  | tup xs =>
    cases ay with
    | int i =>
      rw [rep_tup] at r1
      obtain ⟨p, vs, e1, e2, e3⟩ := r1
      exact tup xs vs p i e1 (.inl (.inl e2)) e3 rfl q
    | _ => exact q.elim
  | lst xs =>
    cases ay with
    | int i =>
      rw [rep_lst] at r1
      obtain ⟨p, vs, e1, e2, e3⟩ := r1
      exact lst xs vs p i e1 e2.sq e3 rfl q
    | _ => exact q.elim
  | scr t xs =>
    cases ay with
    | int i =>
      obtain ⟨p, vs, e1, e2, e3⟩ := seq_at rh r1 (xs := xs) rfl
      rcases e2 with e2 | e2
      · exact lst xs vs p i e1 e2 e3 rfl q
      · exact tup xs vs p i e1 e2 e3 rfl q
    | _ => exact q.elim
  | cel n =>
    unfold Mi.oIx at q
    dsimp only at q
    rw [rep_cel] at r1
    obtain ⟨p, e1, e2⟩ := r1
    split at q
    · rename_i xs hn
      obtain ⟨vs, e3, e4⟩ := cell_lst rh e2 hn
      split at q
      · exact lst xs vs p _ e1 (.inl (.inl e3)) e4 rfl q
      · exact q.elim
    · rename_i t kvs hn
      split at q
      · rename_i hk
        rcases dget_at rh e2 hn hk r2 with ⟨h1, h2⟩ | ⟨a, w, h1, h2, h3⟩
        · rw [h1] at q
          exact q.elim
        · rw [h1] at q
          subst e1
          cases rx
          exact d_getItem hu I h2 ry fun w' s' I' rw' => ⟨w, _, I', rw', q.here rh h3⟩
      · exact q.elim
    · exact q.elim
  | non => exact q.elim
  | bl b => exact q.elim
  | int i => exact q.elim
  | xcp => exact q.elim
theorem Pk.op2 {K : Fg} {ct : Ct} {W : WX} {γ : Type} {σ : St} {c : Cn} {h : AH} {P : Cn → Res γ → Prop} {g : AV → AV → Mi.M AV} {x y : AV} {v w : V} {f : AV → AH → Res γ} {Q : VK} (pk : Pk K ct W σ c P) (hn : Nx2 g) (rh : RepH K c h) (rx : Rep K c x v) (ry : Rep K c y w) (hp : P c ((g x y h).bind f))
    (k : ∀ (d : Cn) (h1 : AH) (a : AV) (b : V), d.X = c.X → Ext c d → RepH K d h1 → Rep K d a b → P d (f a h1) → Q b d.H) : oM2 K g v w c.H Q := by
  refine ⟨c, h, x, y, rfl, rh, rx, ry, ?_⟩
  cases z : g x y h with
  | ok a h1 =>
    rw [z] at hp
    exact fun d b hx e1 rh1 r1 => k d h1 a b hx e1 rh1 r1 (pk.mono d _ hx e1 hp)
  | ex e h1 => exact absurd z (hn _ _ _ _ _)
  | no =>
    rw [z] at hp
    exact (pk.no hp).elim
/-- o[i] op= e -/
theorem qs_augIx {o i : Expr} {mo mi : Mi.E} {op : Operator} {f : AV → AV → Mi.M AV} (hu : X.A.units + 1 < cLine) (ho : QE ct X W o mo) (hi : QE ct X W i mi) (he : QE ct X W e me) (hp : OpR X (inplaceOp op) (oM2 X.K f)) (hn : Nx2 f)
    (ha : ∀ ov iv new, augStore i ov iv new = (do holding [new, ov, iv] (setItem ov iv new); release [new, ov, iv] []; pure .next) := by intros; rfl) : QS ct X W (.AugAssign (.Subscript o i pos') op e pos) (Mi.sAugS f mo mi me) :=
  PS.imp (ps_augS ho hi (get_M hu) he (fun pins s σ H x y v u Q I rx ry h => hp pins s σ H x y v u Q I rx ry h) (set_M hu) ha) fun D σ H ⟨c, h, as, e, rh, rs, q⟩ => by
    subst e
    refine tM_bind (PostS.pk rs) rh rs q fun d h1 a v hx e1 rh1 rs1 r1 q1 => ?_
    refine tM_bind (PostS.pk rs1) rh1 rs1 q1 fun d2 h2 b w hx2 e2 rh2 rs2 r2 q2 => ?_
    refine Pk.op2 (PostS.pk rs2) nx_ix rh2 (r1.ext e2) r2 q2 fun d3 h3 x3 v3 hx3 e3 rh3 r3 q3 => ?_
    have rs3 := rs2.ext e3
    refine tM_bind (PostS.pk rs3) rh3 rs3 q3 fun d4 h4 x4 v4 hx4 e4 rh4 rs4 r4 q4 => ?_
    refine Pk.op2 (PostS.pk rs4) hn rh4 (r3.ext e4) r4 q4 fun d5 h5 x5 v5 hx5 e5 rh5 r5 q5 => ?_
    exact ⟨d5, h5, a, b, x5, rfl, rh5, (((r1.ext e2).ext e3).ext e4).ext e5, ((r2.ext e3).ext e4).ext e5, r5, PostS.oSt (rs4.ext e5) q5⟩
end
end MiS

end

section
set_option maxHeartbeats 4000000
namespace MiS
open PySem PySem.Spec L2
open PyProof.Rows hiding St
open Mi (AV HC AH AX Res AS RS)

/-! ### what is walked -/
def nth (h : AH) : Mi.It → Nat → Option AV
  | .seq xs, i => xs[i]?
  | .live n, i => match h[n]? with
    | some (.lst xs) => xs[i]?
    | _ => none
def wok (h : AH) : Mi.It → Prop
  | .seq _ => True
  | .live n => ∃ xs, h[n]? = some (.lst xs)
def Walk (K : Fg) (J : L2.It) (ai : Mi.It) (c0 : Cn) : Prop := ∀ (i : Nat) (c : Cn) (h : AH), Ext c0 c → RepH K c h → wok h ai →
  (nth h ai i = none → J.stop i c.H) ∧ ∀ a, nth h ai i = some a → J.go i c.H ∧ ∀ x H', J.yld i c.H x H' → ∃ d : Cn, d.X = c.X ∧ d.H = H' ∧ Ext c d ∧ RepH K d h ∧ Rep K d a x
abbrev RI (K : Fg) : Rl Mi.It L2.It := fun c a J => Walk K J a c
section
variable {K : Fg} {c0 : Cn}
theorem walk_sq {xs : List AV} {vs : List V} {p : Addr} (hs : ∀ c, Ext c0 c → SqL K c.H p vs) (r : RepL K c0 xs vs) : Walk K (Itl K p) (.seq xs) c0 := by
  intro i c h e rh _
  refine ⟨fun hn => ⟨vs, hs c e, ?_⟩, fun a ha => ?_⟩
  · rw [← r.length]
    exact List.getElem?_eq_none_iff.mp hn
  · obtain ⟨v, hv, rv⟩ := r.get ha
    refine ⟨⟨vs, v, hs c e, hv⟩, fun x H' y => ?_⟩
    obtain ⟨rfl, y⟩ := y
    have ex : x = v := Option.some.inj ((y vs (hs c e)).symm.trans hv)
    subst ex
    exact ⟨c, rfl, rfl, .refl c, rh, rv.ext e⟩
theorem walk_tp {xs : List AV} {vs : List V} {p : Addr} (hs : ∀ c, Ext c0 c → SqT K c.H p vs) (r : RepL K c0 xs vs) : Walk K (Itt K p) (.seq xs) c0 := by
  intro i c h e rh _
  refine ⟨fun hn => ⟨vs, hs c e, ?_⟩, fun a ha => ?_⟩
  · rw [← r.length]
    exact List.getElem?_eq_none_iff.mp hn
  · obtain ⟨v, hv, rv⟩ := r.get ha
    refine ⟨⟨vs, v, hs c e, hv⟩, fun x H' y => ?_⟩
    obtain ⟨rfl, y⟩ := y
    have ex : x = v := Option.some.inj ((y vs (hs c e)).symm.trans hv)
    subst ex
    exact ⟨c, rfl, rfl, .refl c, rh, rv.ext e⟩
theorem walk_live {n : Nat} {p : Addr} (hp : c0.ρ[n]? = some p) : Walk K (Itl K p) (.live n) c0 := by
  intro i c h e rh hw
  obtain ⟨xs, hn⟩ := hw
  have hp' : c.ρ[n]? = some p := by
    obtain ⟨m, em, _⟩ := e.app
    rw [em, List.getElem?_append_left (List.getElem?_eq_some_iff.mp hp).1]
    exact hp
  obtain ⟨vs, h1, r⟩ := cell_lst rh hp' hn
  have hs : SqL K c.H p vs := .inl (.inl h1)
  have en : nth h (.live n) i = xs[i]? := by
    show (match h[n]? with | some (.lst xs) => xs[i]? | _ => none) = _
    rw [hn]
  rw [en]
  refine ⟨fun hn => ⟨vs, hs, ?_⟩, fun a ha => ?_⟩
  · rw [← r.length]
    exact List.getElem?_eq_none_iff.mp hn
  · obtain ⟨v, hv, rv⟩ := r.get ha
    refine ⟨⟨vs, v, hs, hv⟩, fun x H' y => ?_⟩
    obtain ⟨rfl, y⟩ := y
    have ex : x = v := Option.some.inj ((y vs hs).symm.trans hv)
    subst ex
    exact ⟨c, rfl, rfl, .refl c, rh, rv⟩
theorem walk_rng (lo : Int) (n : Nat) : Walk K (Itr lo n) (.seq (Mi.rng lo n)) c0 := by
  intro i c h e rh _
  have len : (Mi.rng lo n).length = n := by simp [Mi.rng]
  have get : ∀ i, i < n → (Mi.rng lo n)[i]? = some (.int (lo + (i : Int))) := fun i hi => by
    unfold Mi.rng
    rw [List.getElem?_map, List.getElem?_range hi]
    rfl
  refine ⟨fun hn => ?_, fun a ha => ?_⟩
  · have := List.getElem?_eq_none_iff.mp hn
    show n ≤ i
    omega
  · have hi : i < n := by
      have := (List.getElem?_eq_some_iff.mp ha).1
      omega
    have ha : (Mi.rng lo n)[i]? = some a := ha
    rw [get i hi] at ha
    cases ha
    refine ⟨hi, fun x H' y => ?_⟩
    obtain ⟨e1, e2⟩ := y
    subst e1 e2
    exact ⟨c, rfl, rfl, .refl c, rh, by rw [rep_int]⟩
theorem walk_str (s : List Nat) : Walk K (Its ⟨s.toArray⟩) (.seq (s.map fun c => .str [c])) c0 := by
  intro i c h e rh _
  have len : (⟨s.toArray⟩ : Str).cps.size = s.length := by simp
  refine ⟨fun hn => ?_, fun a ha => ?_⟩
  · have := List.getElem?_eq_none_iff.mp hn
    rw [List.length_map] at this
    show (⟨s.toArray⟩ : Str).cps.size ≤ i
    omega
  · have ha : (s.map fun c => AV.str [c])[i]? = some a := ha
    rw [List.getElem?_map] at ha
    obtain ⟨d, hd, rfl⟩ := Option.map_eq_some_iff.mp ha
    have hi := (List.getElem?_eq_some_iff.mp hd).1
    refine ⟨by show i < (⟨s.toArray⟩ : Str).cps.size; omega, fun x H' y => ?_⟩
    obtain ⟨e1, d', h1, e2⟩ := y
    subst e1 e2
    have h1 : s[i]? = some d' := by simpa using h1
    rw [hd] at h1
    cases h1
    exact ⟨c, rfl, rfl, .refl c, rh, by rw [rep_str]⟩
end
section
variable {ct : Ct} {X : Cx} {W : WX} {tg : Expr} {e : Expr} {ma mb me : Mi.E} {pos : Pos}
abbrev QI (ct : Ct) (X : Cx) (W : WX) (tg e : Expr) (m : Mi.I) : Prop := PI X tg e (tM X.K ct W (RI X.K) m)
/-- a list, a tuple, a text -/
def iSq (K : Fg) (tl : TE) : TI := fun σ H R => tl σ H fun x H1 => (∃ a, x = .ref a ∧ (∃ xs, SqL K H1 a xs) ∧ R (Itl K a) H1) ∨ (∃ a, x = .ref a ∧ (∃ xs, SqT K H1 a xs) ∧ R (Itt K a) H1) ∨ ∃ z, x = .str z ∧ R (Its z) H1
theorem pi_seqM {l : Expr} {tl : TE} (hl : PE X l tl) : PI X tg l (iSq X.K tl) := by
  refine ⟨fun pins s σ H R I h => ?_⟩
  refine thn (hl.run pins s σ H _ I h) fun v s1 ⟨x, H1, I1, r1, q1⟩ => ?_
  rcases q1 with ⟨a, rfl, ⟨xs, hq⟩, q⟩ | ⟨a, rfl, ⟨xs, hq⟩, q⟩ | ⟨z, rfl, q⟩
  · cases r1
    obtain ⟨its, rv, p, hz⟩ := I1.list hq
    refine wpAny_pyIter_list p.isList ?_
    refine ⟨s1.heap.objs.size, [s1.heap.objs.size], _, _, H1, rfl, I1.kept (t' := s1.toks) fun b o e => Heap.get?_push_of_some _ e, turn_list a _, ⟨_, Heap.get?_push_size _ rfl, rfl, rfl⟩, fun b hb => ?_, q⟩
    rw [List.mem_singleton.mp hb]
    exact I1.fpOk (Nat.le_refl _) (I1.hok.fresh (Nat.le_refl _))
  · cases r1
    obtain ⟨its, rv, p, hz⟩ := I1.tuple hq
    refine wpAny_pyIter_tuple (show s1.heap.IsTuple a its.toArray from p) ?_
    refine ⟨s1.heap.objs.size, [s1.heap.objs.size], _, _, H1, rfl, I1.kept (t' := s1.toks) fun b o e => Heap.get?_push_of_some _ e, turn_tuple a _, ⟨_, Heap.get?_push_size _ rfl, rfl, rfl⟩, fun b hb => ?_, q⟩
    rw [List.mem_singleton.mp hb]
    exact I1.fpOk (Nat.le_refl _) (I1.hok.fresh (Nat.le_refl _))
  · obtain ⟨t, rfl⟩ := r1
    cases ha : z.cps.all (· < 128)
    · exact wpAny_pyIter_wide ha (pi_one (tk := s1.toks) I1 _ (turn_str _ z t "str_iterator" (.inr rfl)) ⟨_, Heap.get?_push_size _ rfl, rfl, rfl⟩ q)
    · exact wpAny_pyIter_ascii ha (pi_one (tk := s1.toks) I1 _ (turn_str _ z t "str_ascii_iterator" (.inl rfl)) ⟨_, Heap.get?_push_size _ rfl, rfl, rfl⟩ q)
theorem qi_seq {l : Expr} (hl : QE ct X W l me) : QI ct X W tg l (Mi.iSeq me) := PI.imp (pi_seqM hl) fun σ H R ⟨c, h, as, e, rh, rs, q⟩ => by
  subst e
  refine tM_bind (P := fun c r => Post X.K ct W (RI X.K) c σ R r) Post.pk rh rs q fun d h1 a v hx e1 rh1 rs1 r1 q1 => ?_
  cases a with
  | tup xs =>
    obtain ⟨p, vs, rfl, e2, e3⟩ := rep_tup.mp r1
    exact .inr (.inl ⟨p, rfl, ⟨vs, .inl (.inl e2)⟩, q1 d _ rfl (.refl d) rh1 (walk_tp (fun c e => .inl (.inl (e.fix _ _ e2 trivial))) e3)⟩)
  | lst xs =>
    obtain ⟨p, vs, rfl, e2, e3⟩ := rep_lst.mp r1
    exact .inl ⟨p, rfl, ⟨vs, e2.sq⟩, q1 d _ rfl (.refl d) rh1 (walk_sq (fun c e => (e.ls e2).sq) e3)⟩
  | scr t xs =>
    cases t with
    | false =>
      obtain ⟨p, vs, rfl, e2, e3⟩ := rep_scr.mp r1
      exact .inl ⟨p, rfl, ⟨vs, e2.sq⟩, q1 d _ rfl (.refl d) rh1 (walk_sq (fun c e => (e.sc e2).sq) e3)⟩
    | true =>
      obtain ⟨p, vs, rfl, e2, e3⟩ := rep_scrT.mp r1
      exact .inr (.inl ⟨p, rfl, ⟨vs, .inr e2⟩, q1 d _ rfl (.refl d) rh1 (walk_tp (fun c e => .inr e2) e3)⟩)
  | str t =>
    have r1 := rep_str.mp r1
    subst r1
    exact .inr (.inr ⟨_, rfl, q1 d _ rfl (.refl d) rh1 (walk_str t)⟩)
  | cel n =>
    obtain ⟨p, rfl, e2⟩ := rep_cel.mp r1
    dsimp only at q1
    split at q1
    · rename_i xs hn
      obtain ⟨vs, e3, e4⟩ := cell_lst rh1 e2 hn
      exact .inl ⟨p, rfl, ⟨vs, .inl (.inl e3)⟩, q1 d _ rfl (.refl d) rh1 (walk_live e2)⟩
    · exact q1.elim
  | non => exact q1.elim
  | bl b => exact q1.elim
  | int i => exact q1.elim
  | xcp => exact q1.elim
theorem big_of {j : Int} (h : Mi.inBig j = true) : -(2 ^ 62) ≤ j ∧ j < 2 ^ 62 := by
  unfold Mi.inBig at h
  rw [decide_eq_true_iff] at h
  by_cases h0 : j = 0
  · subst h0
    decide
  · rw [Nat.log2_lt (by omega)] at h
    rw [show (2 : Nat) ^ 62 = 4611686018427387904 by decide] at h
    rw [show (2 : Int) ^ 62 = 4611686018427387904 by decide]
    omega
theorem qi_rng1 {a : Expr} {p : Pos} (hg : Gl X "range") (hm : X.mg "range" = none) (ha : QE ct X W a ma) (hs : starEach [a] X.env = [(false, eval a X.env)] := by rfl) (hs' : starEach (a :: []) X.env = (false, eval a X.env) :: starEach [] X.env := by rfl) : QI ct X W tg (.Call (.Name "range" p) [a] [] pos) (Mi.iRng1 ma) :=
  PI.imp (pi_range1 hg hm (pa_cons ha pa_nil hs') hs) fun σ H R ⟨c, h, as, e, rh, rs, q⟩ => by
    subst e
    refine tM_bind (P := fun c r => Post X.K ct W (RI X.K) c σ R r) Post.pk rh rs q fun d h1 a v hx e1 rh1 rs1 r1 q1 => ?_
    cases a with
    | int j =>
      have r1 := rep_int.mp r1
      subst r1
      dsimp only at q1
      split at q1
      · rename_i hb
        have hb := big_of hb
        exact ⟨j, rfl, hb.1, hb.2, q1 d _ rfl (.refl d) rh1 (walk_rng 0 j.toNat)⟩
      · exact q1.elim
    | _ => exact q1.elim
theorem qi_rng2 {a b : Expr} {p : Pos} (hg : Gl X "range") (hm : X.mg "range" = none) (ha : QE ct X W a ma) (hb : QE ct X W b mb) (hs : starEach [a, b] X.env = [(false, eval a X.env), (false, eval b X.env)] := by rfl) (hs2 : starEach [b] X.env = [(false, eval b X.env)] := by rfl)
    (hs3 : starEach (a :: [b]) X.env = (false, eval a X.env) :: starEach [b] X.env := by rfl) (hs4 : starEach (b :: []) X.env = (false, eval b X.env) :: starEach [] X.env := by rfl) : QI ct X W tg (.Call (.Name "range" p) [a, b] [] pos) (Mi.iRng2 ma mb) :=
  PI.imp (pi_range2 hg hm (pa_cons ha (pa_cons hb pa_nil hs4) hs3) hs hs2) fun σ H R ⟨c, h, as, e, rh, rs, q⟩ => by
    subst e
    refine tM_bind (P := fun c r => Post X.K ct W (RI X.K) c σ R r) Post.pk rh rs q fun d h1 a v hx e1 rh1 rs1 r1 q1 => ?_
    refine tM_bind (P := fun c r => Post X.K ct W (RI X.K) c σ R r) Post.pk rh1 rs1 q1 fun d2 h2 b w hx2 e2 rh2 rs2 r2 q2 => ?_
    cases a with
    | int i =>
      cases b with
      | int j =>
        have r1 := rep_int.mp r1
        have r2 := rep_int.mp r2
        subst r1 r2
        dsimp only at q2
        split at q2
        · rename_i hb
          split at q2
          · rename_i hb2
            have hb := big_of hb
            have hb2 := big_of hb2
            exact ⟨i, j, rfl, ⟨hb.1, hb.2, hb2⟩, q2 d2 _ rfl (.refl d2) rh2 (walk_rng i (j - i).toNat)⟩
          · exact q2.elim
        · exact q2.elim
      | _ => exact q2.elim
    | _ => cases b <;> exact q2.elim
end

/-! ### for -/
section
variable {ct : Ct} {X : Cx} {W : WX} {tg : Expr} {mi : Mi.I} {mg : Mi.G} {mb : Mi.S} {pos : Pos}
/-- behind a turn -/
theorem PostS.turn {K : Fg} {D : Ends} {c : Cn} {r : RS} {f : AS → AH → RS} {N : St → Hp → Prop}
    (q : PostS K ct W D c (match r with | .nx a h => f a h | .ct a h => f a h | .bk a h => .nx a h | r => r))
    (k : ∀ (a : AS) (h : AH) (d : Cn) (σ : St), d.X = c.X → Ext c d → RepH K d h → RepS K ct d a σ → PostS K ct W D d (f a h) → N σ d.H) : PostS K ct W { D with nx := N, ct := N, bk := D.nx } c r := by
  cases r with
  | nx a h => exact fun d σ hx e rh rs => k a h d σ hx e rh rs (PostS.mono hx e q)
  | ct a h => exact fun d σ hx e rh rs => k a h d σ hx e rh rs (PostS.mono hx e q)
  | bk a h => exact q
  | rt v h => exact q
  | ex x a h => exact q
  | no => exact q
theorem qs_for {iter : Expr} {body : List Stmt} (hp : PassesOwn (model X.prog X.w) X.A X.env X.xe) (hc : X.calm = true) (hi : QI ct X W tg iter mi) (hg : QG ct X tg mg) (hb : QSs ct X W body mb)
    (hs : ∀ x, foldedSetIterable iter X.env x = pure x := by intro _; rfl) : QS ct X W (.For tg iter body [] pos) (Mi.sFor mi mg mb) :=
  PS.imp (ps_for hp hc hi hg hb hs) fun D σ H ⟨c, h, as, e, rh, rs, q⟩ => by
    subst e
    refine st_bind rh rs q fun d h1 ai J hx e1 rh1 rs1 wk q1 => ?_
    cases ai with
    | seq xs =>
      refine ⟨fun i m σ' H' => m = xs.length - i ∧ i ≤ xs.length ∧ ∃ (c' : Cn) (h' : AH) (as' : AS), c'.X = d.X ∧ c'.H = H' ∧ Ext d c' ∧ RepH X.K c' h' ∧ RepS X.K ct c' as' σ' ∧ PostS X.K ct W D c' (Mi.forL mg mb (xs.drop i) as' h'), ⟨xs.length, by simp, Nat.zero_le _, d, h1, as, rfl, rfl, .refl d, rh1, rs1, q1⟩, ?_⟩
      rintro i m σ' H' ⟨rfl, hi, c', h', as', hx', rfl, e', rh', rs', q'⟩
      obtain ⟨w1, w2⟩ := wk i c' h' e' rh' trivial
      by_cases hlt : i < xs.length
      · have hn : nth h' (.seq xs) i = some xs[i] := List.getElem?_eq_getElem hlt
        obtain ⟨go, yl⟩ := w2 _ hn
        rw [List.drop_eq_getElem_cons hlt] at q'
        refine .inr ⟨go, fun σ2 H2 => ∃ m', m' < xs.length - i ∧ m' = xs.length - (i + 1) ∧ i + 1 ≤ xs.length ∧ ∃ (c2 : Cn) (h2 : AH) (as2 : AS), c2.X = d.X ∧ c2.H = H2 ∧ Ext d c2 ∧ RepH X.K c2 h2 ∧ RepS X.K ct c2 as2 σ2 ∧ PostS X.K ct W D c2 (Mi.forL mg mb (xs.drop (i + 1)) as2 h2), fun σ2 H2 n => n, fun x H2 y => ?_⟩
        obtain ⟨d2, hx2, rfl, e2, rh2, r2⟩ := yl x H2 y
        refine ⟨d2, h', as', _, rfl, rh2, rs'.ext e2, r2, ?_⟩
        unfold Mi.forL at q'
        split at q'
        · rename_i as3 h3 eg
          rw [eg]
          intro d3 σ3 hx3 e3 rh3 rs3
          refine ⟨d3, h3, as3, rfl, rh3, rs3, ?_⟩
          refine PostS.turn (PostS.mono hx3 e3 (PostS.mono hx2 e2 q')) fun a4 h4 d4 σ4 hx4 e4 rh4 rs4 q4 => ?_
          exact ⟨_, by omega, rfl, hlt, d4, h4, a4, ((hx4.trans hx3).trans hx2).trans hx', rfl, ((e'.trans e2).trans e3).trans e4, rh4, rs4, q4⟩
        · exact q'.elim
      · have e : i = xs.length := by omega
        subst e
        rw [List.drop_length] at q'
        exact .inl ⟨w1 (by show xs[xs.length]? = none; simp), q' c' σ' rfl (.refl c') rh' rs'⟩
    | live n =>
      refine ⟨fun i m σ' H' => ∃ (c' : Cn) (h' : AH) (as' : AS), c'.X = d.X ∧ c'.H = H' ∧ Ext d c' ∧ RepH X.K c' h' ∧ RepS X.K ct c' as' σ' ∧ PostS X.K ct W D c' (Mi.forC n mg mb m i as' h'), ⟨_, d, h1, as, rfl, rfl, .refl d, rh1, rs1, q1⟩, ?_⟩
      rintro i m σ' H' ⟨c', h', as', hx', rfl, e', rh', rs', q'⟩
      cases m with
      | zero =>
        unfold Mi.forC at q'
        split at q'
        · rename_i xs hn
          split at q'
          · rename_i hl
            refine .inl ⟨(wk i c' h' e' rh' ⟨xs, hn⟩).1 ?_, q' c' σ' rfl (.refl c') rh' rs'⟩
            show (match h'[n]? with | some (.lst xs) => xs[i]? | _ => none) = none
            rw [hn]
            exact List.getElem?_eq_none hl
          · exact q'.elim
        · exact q'.elim
      | succ m =>
        unfold Mi.forC at q'
        split at q'
        · rename_i xs hn
          have en : nth h' (.live n) i = xs[i]? := by
            show (match h'[n]? with | some (.lst xs) => xs[i]? | _ => none) = _
            rw [hn]
          obtain ⟨w1, w2⟩ := wk i c' h' e' rh' ⟨xs, hn⟩
          split at q'
          · rename_i hx0
            exact .inl ⟨w1 (en.trans hx0), q' c' σ' rfl (.refl c') rh' rs'⟩
          · rename_i a hx0
            obtain ⟨go, yl⟩ := w2 a (en.trans hx0)
            refine .inr ⟨go, fun σ2 H2 => ∃ m', m' < m + 1 ∧ ∃ (c2 : Cn) (h2 : AH) (as2 : AS), c2.X = d.X ∧ c2.H = H2 ∧ Ext d c2 ∧ RepH X.K c2 h2 ∧ RepS X.K ct c2 as2 σ2 ∧ PostS X.K ct W D c2 (Mi.forC n mg mb m' (i + 1) as2 h2), fun σ2 H2 n => n, fun x H2 y => ?_⟩
            obtain ⟨d2, hx2, rfl, e2, rh2, r2⟩ := yl x H2 y
            refine ⟨d2, h', as', _, rfl, rh2, rs'.ext e2, r2, ?_⟩
            split at q'
            · rename_i as3 h3 eg
              rw [eg]
              intro d3 σ3 hx3 e3 rh3 rs3
              refine ⟨d3, h3, as3, rfl, rh3, rs3, ?_⟩
              refine PostS.turn (PostS.mono hx3 e3 (PostS.mono hx2 e2 q')) fun a4 h4 d4 σ4 hx4 e4 rh4 rs4 q4 => ?_
              exact ⟨m, by omega, d4, h4, a4, ((hx4.trans hx3).trans hx2).trans hx', rfl, ((e'.trans e2).trans e3).trans e4, rh4, rs4, q4⟩
            · exact q'.elim
        · exact q'.elim
theorem qs_while {c : Expr} {body : List Stmt} {tc : Mi.T} (fuel : Nat) (hp : PassesOwn (model X.prog X.w) X.A X.env X.xe) (hc : QT ct X W c tc) (hb : QSs ct X W body mb) : QS ct X W (.While c body [] pos) (Mi.sWhile fuel tc mb) :=
  PS.imp (ps_while hp hc hb) fun D σ H ⟨c, h, as, e, rh, rs, q⟩ => by
    refine ⟨fun m σ' H' => ∃ (c' : Cn) (h' : AH) (as' : AS), c'.H = H' ∧ RepH X.K c' h' ∧ RepS X.K ct c' as' σ' ∧ PostS X.K ct W D c' (Mi.whileF tc mb m as' h'), ⟨fuel, c, h, as, e, rh, rs, q⟩, ?_⟩
    rintro m σ' H' ⟨c', h', as', rfl, rh', rs', q'⟩
    cases m with
    | zero => exact q'.elim
    | succ m =>
      unfold Mi.whileF at q'
      refine st_bind rh' rs' q' fun d h1 a v hx e1 rh1 rs1 r1 q1 => ?_
      cases r1
      cases a with
      | false => exact q1 d σ' rfl (.refl d) rh1 rs1
      | true =>
        refine ⟨fun σ2 H2 => ∃ m', m' < m + 1 ∧ ∃ (c2 : Cn) (h2 : AH) (as2 : AS), c2.H = H2 ∧ RepH X.K c2 h2 ∧ RepS X.K ct c2 as2 σ2 ∧ PostS X.K ct W D c2 (Mi.whileF tc mb m' as2 h2), fun _ _ n => n, ?_⟩
        refine ⟨d, h1, as', rfl, rh1, rs1, ?_⟩
        exact PostS.turn q1 fun a4 h4 d4 σ4 hx4 e4 rh4 rs4 q4 => ⟨m, by omega, d4, h4, a4, rfl, rh4, rs4, q4⟩
end
end MiS

end

section
set_option maxHeartbeats 4000000
namespace MiS
open PySem PySem.Spec L2
open PyProof.Rows hiding St
open Mi (AV HC AH AX Res AS RS)

/-! ### comprehensions -/
/-- a target that stores in the slots vs alone -/
structure GIn (mg : Mi.G) (vs : List Nat) : Prop where
  ab : ∀ v as h as' h', mg v as h = some (as', h') → Mi.wipe as' vs = Mi.wipe as vs
/-- the reading of a target that stores in the slots vs alone -/
def gMw (K : Fg) (ct : Ct) (m : Mi.G) (vs : List Nat) : TG := fun v σ H Q => ∃ (c : Cn) (h : AH) (as : AS) (a : AV), c.H = H ∧ RepH K c h ∧ RepS K ct c as σ ∧ Rep K c a v ∧ PostG K ct (fun σ' H' => L2.wipe σ' vs = L2.wipe σ vs → Q σ' H') c (m a as h)
abbrev QGw (ct : Ct) (X : Cx) (e : Expr) (m : Mi.G) (vs : List Nat) : Prop := PG X e (gMw X.K ct m vs)
theorem wipe_set {σ : St} {i : Nat} {x : Option V} : ∀ {vs : List Nat}, i ∈ vs → L2.wipe (σ.set i x) vs = L2.wipe σ vs
  | [], h => by cases h
  | v :: vs, h => by
    show (L2.wipe (σ.set i x) vs).set v none = (L2.wipe σ vs).set v none
    by_cases e : i = v
    · subst e
      by_cases hm : i ∈ vs
      · rw [wipe_set hm]
      · have z : ∀ (vs : List Nat) (σ : St), i ∉ vs → L2.wipe (σ.set i x) vs = (L2.wipe σ vs).set i x := by
          intro vs
          induction vs with
          | nil => intro σ _; rfl
          | cons w ws ih =>
            intro σ hn
            show (L2.wipe (σ.set i x) ws).set w none = ((L2.wipe σ ws).set w none).set i x
            rw [ih σ (fun q => hn (List.mem_cons_of_mem _ q)), List.set_comm _ _ (fun q => hn (by rw [q]; exact List.mem_cons_self))]
        rw [z vs σ hm, List.set_set]
    · rw [wipe_set ((List.mem_cons.mp h).resolve_left e)]
theorem wipe_wipe {σ : St} : ∀ (vs ws : List Nat), (∀ x ∈ ws, x ∈ vs) → L2.wipe (L2.wipe σ ws) vs = L2.wipe σ vs
  | vs, [], _ => rfl
  | vs, w :: ws, h => by
    show L2.wipe ((L2.wipe σ ws).set w none) vs = _
    rw [wipe_set (h w List.mem_cons_self), wipe_wipe vs ws fun x hx => h x (List.mem_cons_of_mem _ hx)]
section
variable {ct : Ct} {X : Cx} {pos : Pos} {e : Expr} {es : List Expr}
theorem qgw_nm {i : Nat} {x : Str} {vs : List Nat} (hN : X.N.Nodup) (hi : X.N[i]? = some x) (hx : Loc X.env.scope x) (hm : i ∈ vs) (hk : ct.ok i = true := by rfl) (hf : X.fn x = true ∨ X.env.scope.names.lookup x = some .local := by first | exact .inl rfl | exact .inr rfl | assumption) : QGw ct X (.Name x pos) (Mi.gNm i) vs :=
  PG.imp (pg_name hN hi hx hf) fun v σ H Q ⟨c, h, as, a, e, rh, rs, r, q⟩ => by
    subst e
    exact q c _ rfl (.refl c) rh (rs.set i hk r) (wipe_set hm)
def gsMw (K : Fg) (ct : Ct) (ms : List Mi.G) (vs : List Nat) : TGs := fun ws σ H Q => ∃ (c : Cn) (h : AH) (as : AS) (al : List AV), c.H = H ∧ RepH K c h ∧ RepS K ct c as σ ∧ RepL K c al ws ∧ PostG K ct (fun σ' H' => L2.wipe σ' vs = L2.wipe σ vs → Q σ' H') c (Mi.gAll ms al as h)
abbrev QGsw (ct : Ct) (X : Cx) (e : List Expr) (ms : List Mi.G) (vs : List Nat) : Prop := PGs X e (gsMw X.K ct ms vs)
theorem qgsw_nil {vs : List Nat} : QGsw ct X [] [] vs := PGs.imp pgs_nil fun ws σ H Q ⟨c, h, as, al, e, rh, rs, r, q⟩ => by
  subst e
  cases al with
  | nil =>
    rw [repL_nil] at r
    exact ⟨r, q c _ rfl (.refl c) rh rs rfl⟩
  | cons _ _ => exact q.elim
theorem qgsw_cons {mg : Mi.G} {ms : List Mi.G} {vs : List Nat} (h1 : QGw ct X e mg vs) (h2 : QGsw ct X es ms vs) (hs : (assignEach (e :: es) X.env).map (·.2) = assign e X.env :: (assignEach es X.env).map (·.2) := by rfl) : QGsw ct X (e :: es) (mg :: ms) vs :=
  PGs.imp (pgs_cons h1 h2 hs) fun ws σ H Q ⟨c, h, as, al, e, rh, rs, r, q⟩ => by
    subst e
    cases al with
    | nil => exact q.elim
    | cons x xs =>
      rw [repL_cons] at r
      obtain ⟨v, w, rfl, r1, r2⟩ := r
      refine ⟨v, w, rfl, c, h, as, x, rfl, rh, rs, r1, ?_⟩
      unfold Mi.gAll at q
      split at q
      · rename_i s1 h1 e1
        rw [e1]
        exact fun d σ1 hx e2 rh1 rs1 hw => ⟨d, h1, s1, xs, rfl, rh1, rs1, RepL.ext e2 _ r2, by rw [hw]; exact q.mono hx e2⟩
      · exact q.elim
theorem qgw_tp {k : Nat} {ms : List Mi.G} {vs : List Nat} (hc : X.calm = true) (h : QGsw ct X es ms vs) (hn : (assignEach es X.env).length = ms.length := by rfl) (hst : (assignEach es X.env).findIdx? (·.1) = none := by rfl) : QGw ct X (.Tuple es k pos) (Mi.gTp ms) vs :=
  PG.imp (pg_or (pg_tup hc h hn hst) (pg_lst hc h hn hst)) fun v σ H Q ⟨c, h, as, a, e, rh, rs, r, q⟩ => by
    subst e
    have len : ∀ (Q : St → Hp → Prop) (ms : List Mi.G) (xs : List AV) (as : AS) (h : AH), PostG X.K ct Q c (Mi.gAll ms xs as h) → xs.length = ms.length := by
      intro Q ms
      induction ms with
      | nil =>
        intro xs as h q
        cases xs with
        | nil => rfl
        | cons _ _ => exact q.elim
      | cons g gs ih =>
        intro xs as h q
        cases xs with
        | nil => exact q.elim
        | cons x xs =>
          unfold Mi.gAll at q
          split at q
          · simp [ih xs _ _ q]
          · exact q.elim
    unfold Mi.gTp at q
    split at q
    · rename_i xs
      rw [rep_tup] at r
      obtain ⟨p, vs, rfl, e2, e3⟩ := r
      exact .inl ⟨p, vs, rfl, .inl (.inl e2), by rw [← e3.length]; exact len _ _ _ _ _ q, c, h, as, xs, rfl, rh, rs, e3, q⟩
    · split at q
      · rename_i xs e1
        obtain ⟨p, vs, rfl, e2, e3⟩ := lst_at rh r e1
        exact .inr ⟨p, vs, rfl, .inl (.inl e2), by rw [← e3.length]; exact len _ _ _ _ _ q, c, h, as, xs, rfl, rh, rs, e3, q⟩
      · exact q.elim
end
/-- no exception leaves a comprehension -/
abbrev W0 : WX := fun _ _ _ _ => False
theorem RepS.wipe {K : Fg} {ct : Ct} {c : Cn} {as : AS} {σ : St} (h : RepS K ct c as σ) : ∀ vs : List Nat, vs.all ct.ok = true → RepS K ct c (Mi.wipe as vs) (L2.wipe σ vs)
  | [], _ => h
  | v :: vs, hk => by
    rw [List.all_cons, Bool.and_eq_true] at hk
    exact (h.wipe vs hk.2).gone v hk.1 none
/-- fewer reserved addresses -/
theorem ext_less {c : Cn} {X : Rv} (h : ∀ a ∈ X, a ∈ c.X) (hx : X.xa = c.X.xa) : Ext c ⟨c.ρ, X, c.H⟩ := ⟨⟨[], by simp, by simp⟩, fun _ _ h _ => h, fun _ _ h _ => h, fun _ o h => ⟨o, h⟩, fun a ha => .inl (h a ha), hx⟩
theorem RepH.less {K : Fg} {c : Cn} {h : AH} (rh : RepH K c h) {X : Rv} (hX : ∀ a ∈ X, a ∈ c.X) (hx : X.xa = c.X.xa) : RepH K ⟨c.ρ, X, c.H⟩ h :=
  ⟨rh.len, rh.nd, fun n a o hn ho => (rh.cell n a o hn ho).ext (ext_less hX hx) rfl, fun a ha => rh.res a (hX a ha)⟩
/-- the new list's place is reserved -/
theorem ext_res {c : Cn} {D : Addr} {o : HO} (hD : c.H D = none) : Ext c ⟨c.ρ, c.X.more D, upd c.H D o⟩ :=
  ⟨⟨[], by simp, by simp⟩, fun a u h _ => (upd_ne (ne_of_none h hD)).trans h, fun a u h _ => (upd_ne (ne_of_none h hD)).trans h, fun a u h => ⟨u, (upd_ne (ne_of_none h hD)).trans h⟩, fun a ha => by
    rcases Rv.mem_more.mp ha with e | e
    · rw [e]; exact .inr hD
    · exact .inl e, rfl⟩
theorem RepH.reserve {K : Fg} {c : Cn} {h : AH} (rh : RepH K c h) {D : Addr} {o : HO} (hD : c.H D = none) : RepH K ⟨c.ρ, c.X.more D, upd c.H D o⟩ h := by
  obtain ⟨n1, n2⟩ := rh.new_ne hD
  refine ⟨rh.len, rh.nd, fun n a u hn hu => ?_, fun a ha => ?_⟩
  · obtain ⟨o', e, _⟩ := rh.kind (List.mem_of_getElem? hn)
    exact (rh.cell n a u hn hu).ext (ext_res hD) (upd_ne (ne_of_none e hD))
  · rcases Rv.mem_more.mp ha with e | e
    · subst e
      exact ⟨by show upd c.H a o a ≠ none; rw [upd_same]; exact fun z => (by cases z), n1⟩
    · obtain ⟨h1, h2⟩ := rh.res a e
      refine ⟨?_, h2⟩
      show upd c.H D o a ≠ none
      rw [upd_ne (fun z => h1 (by rw [z]; exact hD))]
      exact h1
/-- the reserved list grows -/
theorem ext_grow {c : Cn} {D : Addr} {o : HO} {d : Cn} (e : Ext d c) (hD : d.H D = none) : Ext d ⟨c.ρ, c.X, upd c.H D o⟩ := by
  refine ⟨e.app, fun a u h h1 => ?_, fun a u h hf => ?_, fun a u h => ?_, e.res, e.xa⟩
  · exact (upd_ne (ne_of_none h hD)).trans (e.out a u h h1)
  · exact (upd_ne (ne_of_none h hD)).trans (e.fix a u h hf)
  · obtain ⟨o', z⟩ := e.on a u h
    exact ⟨o', (upd_ne (ne_of_none h hD)).trans z⟩
/-- nothing known stands at the reserved list D: it may grow, and become a cell, or a list by value -/
structure Ov (c d : Cn) (D : Addr) : Prop where
  at_ : ∃ ys, c.H D = some (.lst ys)
  mem : D ∈ c.X
  rho : ∃ m, d.ρ = c.ρ ++ m ∧ ∀ a ∈ m, a = D
  heap : ∀ a, a ≠ D → d.H a = c.H a
  less : ∀ a ∈ d.X, a ∈ c.X
  xa : d.X.xa = c.X.xa
mutual
theorem Rep.over {K : Fg} {c d : Cn} {D : Addr} (o : Ov c d D) : ∀ (x : AV) {v : V}, Rep K c x v → Rep K d x v
  | .non, _, h => by rw [rep_non] at h ⊢; exact h
  | .bl _, _, h => by rw [rep_bl] at h ⊢; exact h
  | .int _, _, h => by rw [rep_int] at h ⊢; exact h
  | .str _, _, h => by rw [rep_str] at h ⊢; exact h
  | .tup xs, _, h => by
    rw [rep_tup] at h ⊢
    obtain ⟨a, vs, h1, h2, h3⟩ := h
    refine ⟨a, vs, h1, ?_, RepL.over o xs h3⟩
    obtain ⟨ys, hD⟩ := o.at_
    rw [o.heap a (fun z => by rw [z, hD] at h2; cases h2)]
    exact h2
  | .lst xs, _, h => by
    rw [rep_lst] at h ⊢
    obtain ⟨a, vs, h1, h2, h3⟩ := h
    have na : a ≠ D := fun z => h2.2.2 (by rw [z]; exact o.mem)
    obtain ⟨m, em, hm⟩ := o.rho
    refine ⟨a, vs, h1, ⟨?_, fun z => ?_, fun z => h2.2.2 (o.less a z)⟩, RepL.over o xs h3⟩
    · rw [o.heap a na]
      exact h2.1
    · rw [em] at z
      rcases List.mem_append.mp z with z | z
      · exact h2.2.1 z
      · exact na (hm a z)
  | .scr false xs, _, h => by
    rw [rep_scr] at h ⊢
    obtain ⟨a, vs, h1, h2, h3⟩ := h
    refine ⟨a, vs, h1, ?_, RepL.over o xs h3⟩
    rcases h2 with ⟨ob, h2⟩ | h2
    · refine .inl ⟨ob, ?_⟩
      obtain ⟨ys, hD⟩ := o.at_
      rw [o.heap a (fun z => by rw [z, hD] at h2; cases h2)]
      exact h2
    · exact .inr h2
  | .scr true xs, _, h => by
    rw [rep_scrT] at h ⊢
    obtain ⟨a, vs, h1, h2, h3⟩ := h
    exact ⟨a, vs, h1, h2, RepL.over o xs h3⟩
  | .cel n, _, h => by
    rw [rep_cel] at h ⊢
    obtain ⟨a, h1, h2⟩ := h
    obtain ⟨m, em, _⟩ := o.rho
    refine ⟨a, h1, ?_⟩
    rw [em, List.getElem?_append_left (List.getElem?_eq_some_iff.mp h2).1]
    exact h2
  | .xcp _ _ _, _, h => by
    rw [rep_xcp] at h
    exact h.elim
theorem RepL.over {K : Fg} {c d : Cn} {D : Addr} (o : Ov c d D) : ∀ (xs : List AV) {vs : List V}, RepL K c xs vs → RepL K d xs vs
  | [], _, h => by rw [repL_nil] at h ⊢; exact h
  | x :: xs, _, h => by
    rw [repL_cons] at h ⊢
    obtain ⟨v, r, h1, h2, h3⟩ := h
    exact ⟨v, r, h1, Rep.over o x h2, RepL.over o xs h3⟩
end
theorem RepKV.over {κ : Type} {key : AV → Option κ} {K : Fg} {c d : Cn} {D : Addr} (o : Ov c d D) : ∀ {kvs : List (AV × AV)} {ks : List (κ × V)}, RepKV key K c kvs ks → RepKV key K d kvs ks
  | [], _, h => h
  | (a, b) :: r, _, h => by
    obtain ⟨k, v, s, h1, h2, h3, h4⟩ := h
    exact ⟨k, v, s, h1, h2, h3.over o, RepKV.over o h4⟩
theorem CellAt.over {K : Fg} {c d : Cn} {D a : Addr} {x : HC} (o : Ov c d D) (ne : a ≠ D) (h : CellAt K c a x) : CellAt K d a x := by
  cases x with
  | lst xs =>
    obtain ⟨vs, h1, h2⟩ := h
    exact ⟨vs, (o.heap a ne).trans h1, RepL.over o _ h2⟩
  | dic t kvs =>
    cases t with
    | false =>
      obtain ⟨ks, h1, h2⟩ := h
      exact ⟨ks, (o.heap a ne).trans h1, h2.over o⟩
    | true =>
      obtain ⟨ks, h1, h2⟩ := h
      exact ⟨ks, (o.heap a ne).trans h1, h2.over o⟩
/-- the list grows -/
theorem ov_grow {c : Cn} {D : Addr} {ys : List V} {o : HO} (h : c.H D = some (.lst ys)) (hm : D ∈ c.X) : Ov c ⟨c.ρ, c.X, upd c.H D o⟩ D := ⟨⟨ys, h⟩, hm, ⟨[], by simp, by simp⟩, fun a ha => upd_ne ha, fun a z => z, rfl⟩
theorem RepH.grow {K : Fg} {c : Cn} {h : AH} (rh : RepH K c h) {D : Addr} {ys : List V} {o : HO} (e : c.H D = some (.lst ys)) (hm : D ∈ c.X) : RepH K ⟨c.ρ, c.X, upd c.H D o⟩ h := by
  have ov := ov_grow (o := o) e hm
  refine ⟨rh.len, rh.nd, fun n a x hn hx => (rh.cell n a x hn hx).over ov fun z => (rh.res D hm).2 (by rw [← z]; exact List.mem_of_getElem? hn), fun a ha => ?_⟩
  refine ⟨?_, (rh.res a ha).2⟩
  show upd c.H D o a ≠ none
  by_cases z : a = D
  · rw [z, upd_same]
    exact fun w => (by cases w)
  · rw [upd_ne z]
    exact (rh.res a ha).1
/-- .. becomes a list by value -/
theorem ov_val {c : Cn} {D : Addr} {ys : List V} {X : Rv} (h : c.H D = some (.lst ys)) (hm : D ∈ c.X) (hX : ∀ a ∈ X, a ∈ c.X) (hx : X.xa = c.X.xa) : Ov c ⟨c.ρ, X, c.H⟩ D := ⟨⟨ys, h⟩, hm, ⟨[], by simp, by simp⟩, fun a ha => rfl, hX, hx⟩
/-- .. becomes a cell -/
theorem ov_cell {c : Cn} {D : Addr} {ys : List V} {X : Rv} (h : c.H D = some (.lst ys)) (hm : D ∈ c.X) (hX : ∀ a ∈ X, a ∈ c.X) (hx : X.xa = c.X.xa) : Ov c ⟨c.ρ ++ [D], X, c.H⟩ D := ⟨⟨ys, h⟩, hm, ⟨[D], rfl, by simp⟩, fun a ha => rfl, hX, hx⟩
theorem RepH.cellD {K : Fg} {c : Cn} {h : AH} (rh : RepH K c h) {D : Addr} {ys : List V} {xs : List AV} {X : Rv} (e : c.H D = some (.lst ys)) (hm : D ∈ c.X) (hX : ∀ a ∈ X, a ∈ c.X ∧ a ≠ D) (hx : X.xa = c.X.xa) (r : RepL K c xs ys) :
    RepH K ⟨c.ρ ++ [D], X, c.H⟩ (h ++ [.lst xs]) := by
  have ov : Ov c ⟨c.ρ ++ [D], X, c.H⟩ D := ov_cell e hm (fun a ha => (hX a ha).1) hx
  have nD := (rh.res D hm).2
  refine ⟨by simp [rh.len], ?_, fun n a u hn hu => ?_, fun a ha => ?_⟩
  · rw [List.nodup_append]
    exact ⟨rh.nd, by simp, fun a ha b hb => by rw [List.mem_singleton.mp hb]; exact fun z => nD (by rw [← z]; exact ha)⟩
  · have hn : (c.ρ ++ [D])[n]? = some a := hn
    by_cases hl : n < c.ρ.length
    · rw [List.getElem?_append_left hl] at hn
      rw [List.getElem?_append_left (by rw [← rh.len]; exact hl)] at hu
      exact (rh.cell n a u hn hu).over ov fun z => nD (by rw [← z]; exact List.mem_of_getElem? hn)
    · rw [List.getElem?_append_right (by omega)] at hn
      rw [List.getElem?_append_right (by rw [← rh.len]; omega), ← rh.len] at hu
      have z : n - c.ρ.length = 0 := by
        have := (List.getElem?_eq_some_iff.mp hn).1
        simp at this
        omega
      rw [z] at hn hu
      simp at hn hu
      subst hn hu
      exact ⟨ys, e, RepL.over ov _ r⟩
  · refine ⟨(rh.res a (hX a ha).1).1, fun z => ?_⟩
    rcases List.mem_append.mp z with z | z
    · exact (rh.res a (hX a ha).1).2 z
    · exact (hX a ha).2 (List.mem_singleton.mp z)

section
variable {ct : Ct} {W : WX} {K : Fg}
/-- what is wanted of the items -/
def Fin (K : Fg) (Q : VK) (D : Addr) (c : Cn) : Res (List AV) → Prop
  | .ok xs h => ∀ (e : Cn) (vs : List V), e.X = c.X → Ext c e → RepH K e h → RepL K e xs vs → e.H D = some (.lst vs) → Q (.ref D) e.H
  | _ => False
/-- states of the block: all that is known but the list at D -/
structure Blk (K : Fg) (d : Cn) (D : Addr) (c : Cn) (h : AH) (acc : List AV) : Prop where
  X : c.X = d.X.more D
  ext : Ext d c
  rh : RepH K c h
  at_ : ∃ vs, c.H D = some (.lst vs) ∧ RepL K c acc vs
/-- a result of the block, at its state: relative to the outer one -/
def FinD (K : Fg) (Q : VK) (d : Cn) (D : Addr) : Res (List AV) → Prop
  | .ok xs h => ∀ (e : Cn), Blk K d D e h xs → Q (.ref D) e.H
  | _ => False
theorem Blk.step {d c c' : Cn} {D : Addr} {h h' : AH} {acc : List AV} (b : Blk K d D c h acc) (hx : c'.X = c.X) (e : Ext c c') (rh : RepH K c' h') : Blk K d D c' h' acc := by
  obtain ⟨vs, h1, h2⟩ := b.at_
  have nD : D ∉ c.ρ := (b.rh.res D (by rw [b.X]; exact Rv.mem_self)).2
  exact ⟨hx.trans b.X, b.ext.trans e, rh, vs, e.out _ _ h1 nD, RepL.ext e _ h2⟩
theorem Blk.push {d c : Cn} {D : Addr} {h : AH} {acc : List AV} {y : AV} {v : V} (hD : d.H D = none) (b : Blk K d D c h acc) (r : Rep K c y v) : ∃ vs, c.H D = some (.lst vs) ∧ acc.length = vs.length ∧ Blk K d D ⟨c.ρ, c.X, upd c.H D (.lst (vs ++ [v]))⟩ h (acc ++ [y]) := by
  obtain ⟨vs, h1, h2⟩ := b.at_
  have hm : D ∈ c.X := by rw [b.X]; exact Rv.mem_self
  refine ⟨vs, h1, h2.length, b.X, ext_grow b.ext hD, b.rh.grow h1 hm, vs ++ [v], upd_same, ?_⟩
  exact RepL.over (ov_grow h1 hm) _ (h2.append (RepL.one r))
/-- one turn of the block -/
theorem lc_turn {mg : Mi.G} {mt : Mi.T} {me : Mi.E} {vs : List Nat} {σ : St} {as : AS} {d c : Cn} {D : Addr} {h : AH} {acc : List AV} {a : AV} {x : V} {Q : VK} {go : List AV → AH → Res (List AV)} {Nx : Hp → Prop} (hD : d.H D = none) (rs0 : RepS K ct d as σ) (hw : vs.all ct.ok = true) (b : Blk K d D c h acc) (rx : Rep K c a x)
    (q : FinD K Q d D (match mg a (Mi.wipe as vs) h with
      | some (σ1, h1) => (mt σ1 h1).bind fun k h2 => if k = true then (if acc.length < Mi.LINE then (me σ1 h2).bind fun y h3 => go (acc ++ [y]) h3 else .no) else go acc h2
      | none => .no))
    (k : ∀ (c' : Cn) (h' : AH) (acc' : List AV), Blk K d D c' h' acc' → FinD K Q d D (go acc' h') → Nx c'.H) :
    gMw K ct mg vs x (L2.wipe σ vs) c.H fun σ2 H2 => L2.wipe σ2 vs = L2.wipe σ vs ∧ tM K ct W0 RQ mt σ2 H2 fun b H3 =>
      if b = true then tM K ct W0 (RE K) me σ2 H3 fun y H4 => ∃ acc, H4 D = some (.lst acc) ∧ acc.length < sizeLine ∧ Nx (upd H4 D (.lst (acc ++ [y]))) else Nx H3 := by
  refine ⟨c, h, Mi.wipe as vs, a, rfl, b.rh, (rs0.ext b.ext).wipe vs hw, rx, ?_⟩
  cases eg : mg a (Mi.wipe as vs) h with
  | none => rw [eg] at q; exact q.elim
  | some p =>
    obtain ⟨as1, h1⟩ := p
    rw [eg] at q
    intro d1 σ1 hx1 e1 rh1 rs1 hw
    have b1 := b.step hx1 e1 rh1
    rw [wipe_wipe vs vs fun _ z => z] at hw
    refine ⟨hw, ?_⟩
    dsimp only at q
    refine ⟨d1, h1, as1, rfl, rh1, rs1, ?_⟩
    cases et : mt as1 h1 with
    | no => rw [et] at q; exact q.elim
    | ex e h' => rw [et] at q; exact q.elim
    | ok k2 h2 =>
      rw [et] at q
      dsimp only [Mi.Res.bind_ok] at q
      intro d2 k2' hx2 e2 rh2 ek
      cases ek
      have b2 := b1.step hx2 e2 rh2
      have rs2 := rs1.ext e2
      cases k2 with
      | false =>
        rw [if_neg Bool.false_ne_true]
        rw [if_neg Bool.false_ne_true] at q
        exact k d2 h2 acc b2 q
      | true =>
        rw [if_pos rfl]
        rw [if_pos rfl] at q
        split at q
        · rename_i hl
          refine ⟨d2, h2, as1, rfl, rh2, rs2, ?_⟩
          cases ee : me as1 h2 with
          | no => rw [ee] at q; exact q.elim
          | ex e h' => rw [ee] at q; exact q.elim
          | ok y h3 =>
            rw [ee] at q
            intro d3 v3 hx3 e3 rh3 r3
            have b3 := b2.step hx3 e3 rh3
            obtain ⟨ws, w1, w2, w3⟩ := b3.push hD r3
            exact ⟨ws, w1, by rw [← w2, line_eq]; exact hl, k _ h3 _ w3 q⟩
        · exact q.elim
theorem bind_bind {α β γ : Type} (r : Res α) (f : α → AH → Res β) (g : β → AH → Res γ) : (r.bind f).bind g = r.bind fun a h => (f a h).bind g := by cases r <;> rfl
theorem use_lc {γ : Type} {P : Cn → Res γ → Prop} {mi : Mi.I} {mg : Mi.G} {mt : Mi.T} {me : Mi.E} {vs : List Nat} {c : Cn} {h : AH} {as : AS} {σ : St} {f : List AV → AH → Res γ} {Q : VK} (pk : Pk K ct W σ c P) (rh : RepH K c h) (rs : RepS K ct c as σ) (hw : vs.all ct.ok = true) (hp : P c ((Mi.lcOf mi mg mt me vs as h).bind f))
    (fin : ∀ (d e : Cn) (h1 : AH) (xs : List AV) (D : Addr), d.X = c.X → Ext c d → d.H D = none → D ∉ d.X → P c (f xs h1) → Blk K d D e h1 xs → Q (.ref D) e.H) :
    tLc (tM K ct W (RI K) mi) (gMw K ct mg vs) (tM K ct W0 RQ mt) (tM K ct W0 (RE K) me) vs σ c.H Q := by
  unfold Mi.lcOf at hp
  rw [bind_bind] at hp
  refine tM_bindC pk rh rs hp fun d h1 ai J hx e1 rh1 rs1 wk q1 => ?_
  intro D hD
  have nX := (rh1.new_ne hD).2
  have finD : ∀ r : Res (List AV), P c ((Mi.noEx r).bind f) → FinD K Q d D r := by
    intro r hr
    cases r with
    | ok xs hh => exact fun e b => fin d e hh xs D hx e1 hD nX hr b
    | ex x hh => exact (pk.no hr).elim
    | no => exact (pk.no hr).elim
  have b0 : Blk K d D ⟨d.ρ, d.X.more D, upd d.H D (.lst [])⟩ h1 [] := ⟨rfl, ext_res hD, rh1.reserve hD, [], upd_same, by rw [repL_nil]⟩
  cases ai with
  | seq xs =>
    refine ⟨fun i m H' => m = xs.length - i ∧ i ≤ xs.length ∧ ∃ (c' : Cn) (h' : AH) (acc : List AV), c'.H = H' ∧ Blk K d D c' h' acc ∧ FinD K Q d D (Mi.lcL mg mt me (Mi.wipe as vs) (xs.drop i) acc h'), ⟨xs.length, by simp, Nat.zero_le _, _, h1, [], rfl, b0, finD _ q1⟩, ?_⟩
    rintro i m H' ⟨rfl, hi, c', h', acc, rfl, b, q⟩
    obtain ⟨w1, w2⟩ := wk i c' h' b.ext b.rh trivial
    by_cases hlt : i < xs.length
    · have hn : nth h' (.seq xs) i = some xs[i] := List.getElem?_eq_getElem hlt
      obtain ⟨go, yl⟩ := w2 _ hn
      rw [List.drop_eq_getElem_cons hlt] at q
      refine .inr ⟨go, fun H2 => ∃ m', m' < xs.length - i ∧ m' = xs.length - (i + 1) ∧ i + 1 ≤ xs.length ∧ ∃ (c2 : Cn) (h2 : AH) (acc : List AV), c2.H = H2 ∧ Blk K d D c2 h2 acc ∧ FinD K Q d D (Mi.lcL mg mt me (Mi.wipe as vs) (xs.drop (i + 1)) acc h2), fun H2 n => n, fun x H2 y => ?_⟩
      obtain ⟨d2, hx2, rfl, e2, rh2, r2⟩ := yl x H2 y
      have b2 := b.step hx2 e2 rh2
      unfold Mi.lcL at q
      exact lc_turn (go := fun acc h => Mi.lcL mg mt me (Mi.wipe as vs) (xs.drop (i + 1)) acc h) hD rs1 hw b2 r2 q fun c3 h3 acc3 b3 q3 => ⟨_, by omega, rfl, hlt, c3, h3, acc3, rfl, b3, q3⟩
    · have e : i = xs.length := by omega
      subst e
      rw [List.drop_length] at q
      exact .inl ⟨w1 (by show xs[xs.length]? = none; simp), q c' b⟩
  | live n =>
    refine ⟨fun i m H' => ∃ (c' : Cn) (h' : AH) (acc : List AV), c'.H = H' ∧ Blk K d D c' h' acc ∧ FinD K Q d D (Mi.lcC n mg mt me (Mi.wipe as vs) m i acc h'), ⟨_, _, h1, [], rfl, b0, finD _ q1⟩, ?_⟩
    rintro i m H' ⟨c', h', acc, rfl, b, q⟩
    cases m with
    | zero =>
      unfold Mi.lcC at q
      split at q
      · rename_i xs hn
        split at q
        · rename_i hl
          refine .inl ⟨(wk i c' h' b.ext b.rh ⟨xs, hn⟩).1 ?_, q c' b⟩
          show (match h'[n]? with | some (.lst xs) => xs[i]? | _ => none) = none
          rw [hn]
          exact List.getElem?_eq_none hl
        · exact q.elim
      · exact q.elim
    | succ m =>
      unfold Mi.lcC at q
      split at q
      · rename_i xs hn
        have en : nth h' (.live n) i = xs[i]? := by
          show (match h'[n]? with | some (.lst xs) => xs[i]? | _ => none) = _
          rw [hn]
        obtain ⟨w1, w2⟩ := wk i c' h' b.ext b.rh ⟨xs, hn⟩
        split at q
        · rename_i hx0
          exact .inl ⟨w1 (en.trans hx0), q c' b⟩
        · rename_i a hx0
          obtain ⟨go, yl⟩ := w2 a (en.trans hx0)
          refine .inr ⟨go, fun H2 => ∃ m', m' < m + 1 ∧ ∃ (c2 : Cn) (h2 : AH) (acc : List AV), c2.H = H2 ∧ Blk K d D c2 h2 acc ∧ FinD K Q d D (Mi.lcC n mg mt me (Mi.wipe as vs) m' (i + 1) acc h2), fun H2 n => n, fun x H2 y => ?_⟩
          obtain ⟨d2, hx2, rfl, e2, rh2, r2⟩ := yl x H2 y
          have b2 := b.step hx2 e2 rh2
          exact lc_turn (go := fun acc h => Mi.lcC n mg mt me (Mi.wipe as vs) m (i + 1) acc h) hD rs1 hw b2 r2 q fun c3 h3 acc3 b3 q3 => ⟨m, by omega, c3, h3, acc3, rfl, b3, q3⟩
      · exact q.elim
/-- the list by value, in a cell -/
theorem Blk.val {c d e : Cn} {D : Addr} {h1 : AH} {xs : List AV} {Q : VK} (hx : d.X = c.X) (e1 : Ext c d) (hD : d.H D = none) (nX : D ∉ d.X) (b : Blk K d D e h1 xs) (q : ∀ (f : Cn) (v : V), f.X = c.X → Ext c f → RepH K f h1 → Rep K f (.lst xs) v → Q v f.H) : Q (.ref D) e.H := by
  obtain ⟨vs, h2, h3⟩ := b.at_
  have hm : D ∈ e.X := by rw [b.X]; exact Rv.mem_self
  have sub : ∀ a ∈ d.X, a ∈ e.X := fun a ha => by rw [b.X]; exact Rv.mem_of ha
  have hxa : d.X.xa = e.X.xa := by rw [b.X]; rfl
  have ee : Ext e ⟨e.ρ, d.X, e.H⟩ := ext_less sub hxa
  refine q ⟨e.ρ, d.X, e.H⟩ (.ref D) hx ((e1.trans b.ext).trans ee) (b.rh.less sub hxa) ?_
  rw [rep_lst]
  exact ⟨D, vs, rfl, ⟨h2, (b.rh.res D hm).2, nX⟩, RepL.ext ee _ h3⟩
theorem Blk.cell {c d e : Cn} {D : Addr} {h1 : AH} {xs : List AV} {Q : VK} (hx : d.X = c.X) (e1 : Ext c d) (hD : d.H D = none) (nX : D ∉ d.X) (b : Blk K d D e h1 xs) (q : ∀ (f : Cn) (v : V), f.X = c.X → Ext c f → RepH K f (h1 ++ [.lst xs]) → Rep K f (.cel h1.length) v → Q v f.H) : Q (.ref D) e.H := by
  obtain ⟨vs, h2, h3⟩ := b.at_
  have hm : D ∈ e.X := by rw [b.X]; exact Rv.mem_self
  have hcD : c.H D = none := e1.off hD
  have ece : Ext c e := e1.trans b.ext
  refine q ⟨e.ρ ++ [D], d.X, e.H⟩ (.ref D) hx ?_ (b.rh.cellD h2 hm (fun a ha => ⟨by rw [b.X]; exact Rv.mem_of ha, fun z => nX (by rw [← z]; exact ha)⟩) (by rw [b.X]; rfl) h3) ?_
  · obtain ⟨m, em, hmm⟩ := ece.app
    refine ⟨⟨m ++ [D], by show e.ρ ++ [D] = _; rw [em, List.append_assoc], fun a ha => ?_⟩, ece.out, ece.fix, ece.on, fun a ha => ?_, e1.xa⟩
    · rcases List.mem_append.mp ha with z | z
      · exact hmm a z
      · rw [List.mem_singleton.mp z]
        exact hcD
    · exact e1.res a ha
  · rw [rep_cel]
    refine ⟨D, rfl, ?_⟩
    show (e.ρ ++ [D])[h1.length]? = some D
    rw [← b.rh.len]
    simp
end
section
variable {ct : Ct} {X : Cx} {W : WX} {elt tg iter : Expr} {ifs : List Expr} {scope : Scope} {own : List (Str × Nat)} {pos py spos : Pos} {mi : Mi.I} {mg : Mi.G} {mt : Mi.T} {me : Mi.E}
abbrev QTs (ct : Ct) (X : Cx) (W : WX) (ifs : List Expr) (m : Mi.T) : Prop := PTs X ifs (tM X.K ct W RQ m)
theorem PTs.imp {X : Cx} {e : List Expr} {t u : TT} (p : PTs X e t) (h : ∀ σ H Q, u σ H Q → t σ H Q) : PTs X e u := ⟨fun pins s σ H Q I q => p.run pins s σ H Q I (h σ H Q q)⟩
theorem qts_nil : QTs ct X W [] Mi.tYes := PTs.imp pts_nil fun σ H Q ⟨c, h, as, e, rh, rs, q⟩ => by
  subst e
  exact q c true rfl (.refl c) rh rfl
theorem qts_one {c : Expr} (h : QT ct X W c mt) : QTs ct X W [c] mt := pts_one h
theorem q_lc (hc : X.calm = true) (hN : X.N.Nodup) (hi : QI ct X W tg iter mi) (ok : BlkOk X.N X.env.scope scope own)
    (hg : ∀ (s : Shared) (H : Hp) (C : Addr) (cl : List (Str × Addr)) (fp : List Addr), QGw ct (X.blk s H scope (compEnvC scope cl C X.env) fp) tg mg (own.map (·.2))) (ht : ∀ (s : Shared) (H : Hp) (C : Addr) (cl : List (Str × Addr)) (fp : List Addr), QTs ct (X.blk s H scope (compEnvC scope cl C X.env) fp) W0 ifs mt)
    (he : ∀ (s : Shared) (H : Hp) (C : Addr) (cl : List (Str × Addr)) (fp : List Addr), QE ct (X.blk s H scope (compEnvC scope cl C X.env) fp) W0 elt me) (hs : ∀ x, foldedSetIterable iter X.env x = pure x := by intro _; rfl) (hw : (own.map (·.2)).all ct.ok = true := by rfl) :
    QE ct X W (.ListComp elt [⟨tg, iter, ifs, 0⟩] scope pos) (Mi.eLc mi mg mt me (own.map (·.2))) :=
  PE.imp (pe_lc hc hN hi ok hg ht he hs) fun σ H Q ⟨c, h, as, e, rh, rs, q⟩ => by
    subst e
    exact use_lc (P := fun c r => Post X.K ct W (RE X.K) c σ Q r) Post.pk rh rs hw q fun d e h1 xs D hx e1 hD nX q1 b => b.val hx e1 hD nX q1
theorem q_lcC (hc : X.calm = true) (hN : X.N.Nodup) (hi : QI ct X W tg iter mi) (ok : BlkOk X.N X.env.scope scope own)
    (hg : ∀ (s : Shared) (H : Hp) (C : Addr) (cl : List (Str × Addr)) (fp : List Addr), QGw ct (X.blk s H scope (compEnvC scope cl C X.env) fp) tg mg (own.map (·.2))) (ht : ∀ (s : Shared) (H : Hp) (C : Addr) (cl : List (Str × Addr)) (fp : List Addr), QTs ct (X.blk s H scope (compEnvC scope cl C X.env) fp) W0 ifs mt)
    (he : ∀ (s : Shared) (H : Hp) (C : Addr) (cl : List (Str × Addr)) (fp : List Addr), QE ct (X.blk s H scope (compEnvC scope cl C X.env) fp) W0 elt me) (hs : ∀ x, foldedSetIterable iter X.env x = pure x := by intro _; rfl) (hw : (own.map (·.2)).all ct.ok = true := by rfl) :
    QE ct X W (.ListComp elt [⟨tg, iter, ifs, 0⟩] scope pos) (Mi.eLcC mi mg mt me (own.map (·.2))) :=
  PE.imp (pe_lc hc hN hi ok hg ht he hs) fun σ H Q ⟨c, h, as, e, rh, rs, q⟩ => by
    subst e
    exact use_lc (P := fun c r => Post X.K ct W (RE X.K) c σ Q r) Post.pk rh rs hw q fun d e h1 xs D hx e1 hD nX q1 b => b.cell hx e1 hD nX q1
/-- name = [..] -/
theorem qs_setLc {i : Nat} {y : Str} (hc : X.calm = true) (hN : X.N.Nodup) (hy : X.N[i]? = some y) (hyl : X.env.scope.names.lookup y = some .local)
    (hsw : swapsWith (.ListComp elt [⟨tg, iter, ifs, 0⟩] scope pos) (some (.Name y py)) spos.line X.env = pure true) (hi : QI ct X W tg iter mi) (ok : BlkOk X.N X.env.scope scope own)
    (hg : ∀ (s : Shared) (H : Hp) (C : Addr) (cl : List (Str × Addr)) (fp : List Addr), QGw ct (X.blk s H scope (compEnvC scope cl C X.env) fp) tg mg (own.map (·.2))) (ht : ∀ (s : Shared) (H : Hp) (C : Addr) (cl : List (Str × Addr)) (fp : List Addr), QTs ct (X.blk s H scope (compEnvC scope cl C X.env) fp) W0 ifs mt)
    (he : ∀ (s : Shared) (H : Hp) (C : Addr) (cl : List (Str × Addr)) (fp : List Addr), QE ct (X.blk s H scope (compEnvC scope cl C X.env) fp) W0 elt me) (hs : ∀ x, foldedSetIterable iter X.env x = pure x := by intro _; rfl) (hw : (own.map (·.2)).all ct.ok = true := by rfl) (hk : ct.ok i = true := by rfl) :
    QS ct X W (.Assign [.Name y py] (.ListComp elt [⟨tg, iter, ifs, 0⟩] scope pos) spos) (Mi.sAsg (Mi.eLc mi mg mt me (own.map (·.2))) (Mi.gNm i)) :=
  PS.imp (ps_setLc hc hN hy hyl hsw hi ok hg ht he hs) fun D σ H ⟨c, h, as, e, rh, rs, q⟩ => by
    subst e
    exact use_lc (γ := AV) (PostS.pk rs) rh rs hw q fun d e h1 xs Dl hx e1 hD nX q1 b => b.val (Q := fun x H1 => D.nx (σ.set i (some x)) H1) hx e1 hD nX fun f v hx2 e2 rh2 r2 => q1 f _ hx2 e2 rh2 ((rs.ext e2).set i hk r2)
theorem qs_setLcC {i : Nat} {y : Str} (hc : X.calm = true) (hN : X.N.Nodup) (hy : X.N[i]? = some y) (hyl : X.env.scope.names.lookup y = some .local)
    (hsw : swapsWith (.ListComp elt [⟨tg, iter, ifs, 0⟩] scope pos) (some (.Name y py)) spos.line X.env = pure true) (hi : QI ct X W tg iter mi) (ok : BlkOk X.N X.env.scope scope own)
    (hg : ∀ (s : Shared) (H : Hp) (C : Addr) (cl : List (Str × Addr)) (fp : List Addr), QGw ct (X.blk s H scope (compEnvC scope cl C X.env) fp) tg mg (own.map (·.2))) (ht : ∀ (s : Shared) (H : Hp) (C : Addr) (cl : List (Str × Addr)) (fp : List Addr), QTs ct (X.blk s H scope (compEnvC scope cl C X.env) fp) W0 ifs mt)
    (he : ∀ (s : Shared) (H : Hp) (C : Addr) (cl : List (Str × Addr)) (fp : List Addr), QE ct (X.blk s H scope (compEnvC scope cl C X.env) fp) W0 elt me) (hs : ∀ x, foldedSetIterable iter X.env x = pure x := by intro _; rfl) (hw : (own.map (·.2)).all ct.ok = true := by rfl) (hk : ct.ok i = true := by rfl) :
    QS ct X W (.Assign [.Name y py] (.ListComp elt [⟨tg, iter, ifs, 0⟩] scope pos) spos) (Mi.sAsg (Mi.eLcC mi mg mt me (own.map (·.2))) (Mi.gNm i)) :=
  PS.imp (ps_setLc hc hN hy hyl hsw hi ok hg ht he hs) fun D σ H ⟨c, h, as, e, rh, rs, q⟩ => by
    subst e
    exact use_lc (γ := AV) (PostS.pk rs) rh rs hw q fun d e h1 xs Dl hx e1 hD nX q1 b => b.cell (Q := fun x H1 => D.nx (σ.set i (some x)) H1) hx e1 hD nX fun f v hx2 e2 rh2 r2 => q1 f _ hx2 e2 rh2 ((rs.ext e2).set i hk r2)
end
end MiS

end

section
set_option maxHeartbeats 4000000
/-! MiX0: an own exception over an own exception over ValueError, its __init__ says super().__init__(text) and stores its arguments. -/
namespace PySem
namespace MiX
open PySem.W PySem.Calls PyProof.Rows PySem.HandSPX
/-- self.f = f, for each -/
inductive Asgs : List Stmt → List Str → Prop
  | nil : Asgs [] []
  | cons {f : Str} {a b c d : Pos} {r : List Stmt} {fs : List Str} (t : Asgs r fs) : Asgs (.Assign [.Attribute (.Name "self" a) f b] (.Name f c) d :: r) (f :: fs)
/-- what the written part says of the function -/
structure InitFn (K : Frag) (prog : Program) (C fI : Addr) (fs : List Str) : Prop where
  ex : ∃ (oc : Value) (od : Option Addr) (qual : Str) (params : Arguments) (txt : Str) (j : Nat) (p0 p1 p2 p3 p4 p5 : Pos) (asg : List Stmt) (scope : Scope) (dV kV doc pm : Value) (an : Option Addr) (cda cc : Addr) (ct : Value) (osl : Array (Option Value)),
    K.lookup fI = some ⟨oc, od, .func (ksFn "__init__" qual params (.Expr (.Call (.Attribute (.Call (.Name "super" p0) [] [] p1) "__init__" p2) [.Constant (.str txt) j p3] [] p4) p5 :: asg) scope dV kV doc pm an (.ref cda) ct cc), osl⟩ ∧
    codeIn K (.ref cda) qual = true ∧ Asgs asg fs ∧ scope.kind = .function ∧ scope.isCoroutine = false ∧ scope.isGenerator = false ∧ scope.names.lookup ("super" : Str) = some .globalImplicit ∧ scope.names.lookup ("__class__" : Str) = some .free ∧
    (∀ f ∈ ("self" : Str) :: fs, scope.names.lookup f = some .local) ∧ (∀ y ∈ scope.names, y.2 ≠ .cell) ∧ (∃ ar, (params.posonlyargs ++ params.args).head? = some ar ∧ ar.arg = ("self" : Str)) ∧
    (∀ (s : Shared) (us : List Value), us.length = (("self" : Str) :: fs).length → BindsTo s (ksFn "__init__" qual params (.Expr (.Call (.Attribute (.Call (.Name "super" p0) [] [] p1) "__init__" p2) [.Constant (.str txt) j p3] [] p4) p5 :: asg) scope dV kV doc pm an (.ref cda) ct cc) ⟨us, []⟩ ((("self" : Str) :: fs).zip us)) ∧
    (∃ ccl cdd vs ccs file tf, K.lookup cda = some ⟨ccl, cdd, .fields vs, ccs⟩ ∧ vs[2]? = some (.str file tf) ∧ ((prog.main.file : Str) == file) = true) ∧
    (∃ cl cld csl, K.lookup cc = some ⟨cl, cld, .cell (some (.ref C)), csl⟩) ∧
    (∀ env : Env, ∃ pl : Sem Bool, eval (.Call (.Attribute (.Call (.Name "super" p0) [] [] p1) "__init__" p2) [.Constant (.str txt) j p3] [] p4) env = (do
      let ov ← attributeBase (.Call (.Name "super" p0) [] [] p1) "__init__" env (eval (.Call (.Name "super" p0) [] [] p1) env)
      standAt p2.atName
      let (f, first) ← holding [ov] (getMethod ov "__init__" pl)
      callWith p4 f first (backTo p4 (starEach [.Constant (.str txt) j p3] env)) []))
/-- what the written part says of the class -/
structure ExTxt (K : Frag) (prog : Program) (mg : Str → Option Value) (C D fI : Addr) (fs : List Str) : Prop where
  cls : ∃ nm q N bs sn sub ab col dd k0 k1 k2 k3 k5, K.lookup C = some (excClassObj nm q C N bs (.ref D :: veTail) true sn sub ab col dd k0 k1 k2 k3 k5 "ValueError.__new__")
  dI : alongIn K "__init__" (.ref D :: veTail) = some (some (.builtin "ValueError.__init__"))
  opq : nsIn K cStatics "thirdparty.any" = some none
  sup : mg "super" = none
  top : (prog.main.scope.names.lookup ("super" : Str)).isSome = false
  sa : findIn K (.ref C) "__setattr__" = some (some (.builtin "object.__setattr__"))
  noF : ∀ f ∈ fs, findIn K (.ref C) f = some none
  iC : findIn K (.ref C) "__init__" = some (some (.ref fI))
  tI : typeIn K (.ref fI) = some (.type "function")
  kC : keepIn K (.ref C) = true
  nd : (("self" : Str) :: fs).Nodup
  few : fs.length ≤ 100
  fn : InitFn K prog C fI fs

theorem lookup_nd {l : List (Str × Value)} {k : Str} {v : Value} (nd : (l.map (·.1)).Nodup) (h : (k, v) ∈ l) : l.lookup k = some v := by
  induction l with
  | nil => cases h
  | cons p l ih =>
    obtain ⟨k', v'⟩ := p
    rw [List.map_cons, List.nodup_cons] at nd
    rcases List.mem_cons.mp h with e | h2
    · cases e
      simp [List.lookup]
    · have ne : (k == k') = false := by
        rw [beq_eq_false_iff_ne]
        intro z
        subst z
        exact nd.1 (List.mem_map.mpr ⟨_, h2, rfl⟩)
      rw [List.lookup, ne]
      exact ih nd.2 h2
theorem lookup_binds {ns : List Str} {us : List Value} (nd : ns.Nodup) {k : Str} {v : Value} (h : (k, v) ∈ ns.zip us) : (ns.zip us).reverse.lookup k = some v := by
  refine lookup_nd ?_ (List.mem_reverse.mpr h)
  rw [List.map_reverse]
  refine (List.pairwise_reverse.mpr (List.Pairwise.imp Ne.symm (List.Pairwise.sublist (l₁ := (ns.zip us).map (fun x : Str × Value => x.1)) ?_ nd)))
  clear h nd
  induction ns generalizing us with
  | nil => simp
  | cons n ns ih =>
    cases us with
    | nil => simp
    | cons u us => exact (ih (us := us)).cons_cons n

theorem not_interactive {env : Env} (h : env.scope.kind = .function) : interactive env = false := by
  unfold interactive
  rw [h]
  rfl
abbrev excD (C t : Addr) (d : Option Addr) : Obj := { cls := .ref C, dict := d, data := .fields #[.ref t, .none, .none, .none, .bool false, .none] }
/-- the dict after the stores -/
def after : List Str → List Value → (Str → Option Value) → Str → Option Value
  | f :: fs, u :: us, m => after fs us (fun y => if y = f then some u else m y)
  | _, _, m => m

section
variable {prog : Program} {w : World} {M : Model} {A : Around} {E : Value → Shared → Prop} {R : Result → Shared → Prop}
/-- the wrapper called: the args are laid anew -/
theorem call_mw {h : Heap} {g : Array GenState} {d : Drawn} {t : Nat} {os : OsState} {nm q : Str} {C N : Addr} {bs bm : List Value} {hdct : Bool} {sn : List Str} {sub : List Value} {ab : Bool} {col : Option Bool} {dd : Option Addr} {k0 k1 k2 k3 k5 : Option Value}
    {u e t0 : Addr} {rest : List Value} {Q : Value → Shared → Prop}
    (hC : h.get? C = some (excClassObj nm q C N bs bm hdct sn sub ab col dd k0 k1 k2 k3 k5 "ValueError.__new__")) (he : h.get? e = some (excD C t0 none)) (hu : h.get? u = some (kxs_mw "ValueError.__init__" e)) (hrest : rest.length ≤ sizeLine)
    (hq : ∀ h' t1, (∀ b o, b ≠ e → h.get? b = some o → h'.get? b = some o) → h'.get? e = some (excD C t1 none) → Q .none ⟨h', g, d, t, os⟩) :
    wpAny (model prog w) A (call (.ref u) rest) Q E ⟨h, g, d, t, os⟩ := by
  refine wpAny_call (codeAny_of_tree ?_)
  show wpAny _ A.in1 (callAny (.ref u) ⟨rest, []⟩) _ _ _
  simp only [callAny]
  refine wpAny_bind (wpAny_load hu ?_)
  simp only [kxs_mw, show (Value.type "method-wrapper" == Value.type "method" || Value.type "method-wrapper" == Value.type "builtin_function_or_method" || Value.type "method-wrapper" == Value.type "method-wrapper") = true by decide, if_true]
  refine W.KFB.if_so (by decide) ?_
  refine wpAny_bind (check_bound_init F.excBase_ValueError.toExcCallFacts hC he rfl ?_)
  refine wpAny_bind (wpAny_pure (wpAny_pure ?_))
  refine ⟨plainId_quiet F.excBase_ValueError.init.plain _, codeAny_builtin F.excBase_ValueError.initEntry ?_⟩
  rw [Around.under_plainId F.excBase_ValueError.init.plain _]
  wp_walk
  refine hq _ h.objs.size (fun b o hb ho => ?_) ?_
  · rw [Heap.get?_update_other _ _ (Ne.symm hb)]
    exact Heap.get?_push_of_some _ ho
  · rw [Heap.get?_update_self _ (Heap.get?_push_of_some _ he) rfl]
    rfl
/-- self.f = f, for the fields left -/
theorem stores {K : Frag} {C x t1 L : Addr} {cd : ClassData} {env : Env} {ml : Str → Option Value} (he : env.locals = L) (hkind : env.scope.kind = .function) (hcd : clsIn K C = some cd) (hm : refsVE cd.mro = true) (hh : cd.hasDict = true)
    (sa : findIn K (.ref C) "__setattr__" = some (some (.builtin "object.__setattr__"))) (hxL : x ≠ L) (self : ml "self" = some (.ref x)) (hs : env.kindOf "self" = some .local) :
    ∀ {asg : List Stmt} {fs : List Str} {us : List Value}, Asgs asg fs → us.length = fs.length → (∀ f ∈ fs, findIn K (.ref C) f = some none) → (∀ p ∈ fs.zip us, ml p.1 = some p.2) → (∀ f ∈ fs, env.kindOf f = some .local ∧ (f == ("__debug__" : Str)) = false) →
    ∀ {s : Shared} {dx : Addr} {m0 : Str → Option Value} {nl : List Str} {Q : Flow → Shared → Prop}, K.In s.heap → s.heap.Ns L ml → s.heap.get? x = some (excD C t1 (some dx)) → s.heap.Ns1 dx m0 → Within m0 nl → nl.length + fs.length ≤ 1000 → dx ≠ L → (∀ b, K.lookup b ≠ none → b ≠ dx) →
    (∀ h' tk, (∀ b o, b ≠ dx → s.heap.get? b = some o → h'.get? b = some o) → h'.Ns1 dx (after fs us m0) → Q .next { s with heap := h', toks := tk }) → wpAny (model prog w) A (execs asg env) Q E s := by
  intro asg fs us ha
  induction ha generalizing us with
  | nil =>
    intro hl _ _ _ s dx m0 nl Q X hL hx hd hw hn ne hk hq
    exact wpAny_execs_nil (hq s.heap s.toks (fun b o _ e => e) hd)
  | @cons f a b c d r fs t ih =>
    intro hl hno hml hkf s dx m0 nl Q X hL hx hd hw hn ne hk hq
    cases us with
    | nil => cases hl
    | cons u us =>
      have hmf : ml f = some u := hml (f, u) (by simp)
      refine wpAny_execs_cons (plainObj_wpAny_Assign_Attribute ?_)
      have ld : ∀ {y : Str} {p : Pos} {v : Value} {Q : Value → Shared → Prop} {E : Value → Shared → Prop}, env.kindOf y = some .local → (y == ("__debug__" : Str)) = false → ml y = some v → Q v s → wpAny (model prog w) A (eval (.Name y p) env) Q E s := by
        intro y p v Q E hk2 hdb hv hQ
        exact wpAny_Name (wpAny_loadName_local hkind hk2 (by rw [he]; exact hL) hv hQ) hdb
      refine ld (hkf f (by simp)).1 (hkf f (by simp)).2 hmf (ld hs (by decide) self ?_)
      obtain ⟨oD, _, _, hoD, _, _⟩ := hd.count hw
      obtain ⟨hp, g, dr, tk, os⟩ := s
      refine set_plain X (ox := excD C t1 (some dx)) (od := some oD) ⟨hx, rfl, rfl, hoD⟩ sa ?_
      refine PySem.OEX.osa_old X hx hd hw (by simp at hn; omega) hcd hm hh (hno f (by simp)) (fun h' tk' k hn' => ?_)
      have kk : ∀ b o, b ≠ dx → hp.get? b = some o → h'.get? b = some o := k
      refine ih (us := us) (by simpa using hl) (fun f hf => hno f (List.mem_cons_of_mem _ hf)) (fun p hp => hml p (by simp at hp ⊢; exact .inr hp)) (fun f hf => hkf f (List.mem_cons_of_mem _ hf)) (s := ⟨h', g, dr, tk', os⟩) (dx := dx)
        (m0 := fun y => if y = f then some u else m0 y) (nl := f :: nl) (fun b o e => kk b o (hk b (by rw [e]; simp)) (X b o e)) ?_ (kk x _ ?_ hx) hn' (Within.cons f u hw) (by simp at hn ⊢; omega) ne hk fun h2 tk2 k2 n2 => ?_
      · obtain ⟨oL, es, ep, hoL, r⟩ := hL
        exact ⟨oL, es, ep, kk _ _ (Ne.symm ne) hoL, r⟩
      · intro z
        rw [← z] at hoD
        rw [hx] at hoD
        cases hoD
        obtain ⟨o, es, ep, e1, e2, _⟩ := hd
        rw [← z, hx] at e1
        cases e1
        cases e2
      · exact hq h2 tk2 (fun b o hb e => k2 b o hb (kk b o hb e)) n2
/-- what __init__ leaves of a fresh exception at x -/
structure InitEnd (h h' : Heap) (x C dx t1 : Addr) (m : Str → Option Value) : Prop where
  keep : ∀ b o, b ≠ x → h.get? b = some o → h'.get? b = some o
  obj : h'.get? x = some (excD C t1 (some dx))
  dbig : h.objs.size ≤ dx
  dne : dx ≠ x
  ns : h'.Ns1 dx m
theorem ex_init {K : Frag} {mg mb : Str → Option Value} {C D fI x t0 : Addr} {f : Str} {fs : List Str} {u : Value} {us : List Value} {s : Shared} (T : ExTxt K prog mg C D fI (f :: fs)) (X : K.In s.heap) (hlim : s.heap.NoLimit)
    (Gm : s.heap.Ns mainGlobals mg) (Gb : s.heap.Ns builtinsNs mb) (hsb : mb "super" = some (.type "super")) (hdb : ∀ y ∈ f :: fs, (y == ("__debug__" : Str)) = false)
    (hx : s.heap.get? x = some (excD C t0 none)) (hnx : K.lookup x = none) (hl : us.length = fs.length) (hroom : A.depth < recursionLimit)
    (hq : ∀ h' tk dx t1, InitEnd s.heap h' x C dx t1 (after fs us (fun y => if y = f then some u else none)) → R (.ok (.ret .none)) { s with heap := h', toks := tk }) :
    codeAny (model prog w) A (.call (.ref fI) ⟨.ref x :: u :: us, []⟩) R s := by
  obtain ⟨⟨oc, od, qual, params, txt, j, p0, p1, p2, p3, p4, p5, asg, scope, dV, kV, doc, pm, an, cda, cc, ct, osl, ho, hcd, ha, kf, kco, kge, ksu, kcl, klo, knc, ⟨ar, har, hself⟩, hbind, ⟨ccl, cdd, vs, ccs, file, tf, hcode, hvs, hfile⟩, ⟨cl, cld, csl, hcell⟩, hev⟩⟩ := T.fn
  obtain ⟨nm, q, N, bs, sn, sub, ab, col, dd, k0, k1, k2, k3, k5, hC⟩ := T.cls
  have hcls : clsIn K C = some { name := nm, bases := bs, mro := .ref C :: .ref D :: veTail, ns := N, qualname := q, hasDict := true, slotNames := sn, subclasses := sub, abstract := ab, collection := col, hasDel := false } := by unfold clsIn; rw [hC] <;> rfl
  have hmr : ∀ b, (Value.ref C :: Value.ref D :: veTail).contains b = true → mroIn K C b = some true := fun b hb => by
    unfold mroIn
    rw [hcls, Option.bind_some, if_neg (show ¬ (List.isEmpty (Value.ref C :: Value.ref D :: veTail) = true) from Bool.false_ne_true), hb]
  have len : (Value.ref x :: u :: us).length = (("self" : Str) :: f :: fs).length := by simp [hl]
  refine ks_codeAny_call_defAt (binds := (("self" : Str) :: f :: fs).zip (.ref x :: u :: us)) hroom (X _ _ ho) rfl hlim (codeRec_of X hcd) rfl (hbind s _ len) knc (fun y hy => klo y.1 (List.of_mem_zip hy).1) (fun h₁ hns hk₁ => ?_) kco kge kf
  have X₁ : K.In h₁ := X.keeps hk₁
  have hx₁ := hk₁ _ _ hx
  have xL : x ≠ s.heap.objs.size := Nat.ne_of_lt (Heap.lt_size hx)
  have bself : ((("self" : Str) :: f :: fs).zip (Value.ref x :: u :: us)).reverse.lookup ("self" : Str) = some (Value.ref x) := lookup_binds T.nd (by simp)
  obtain ⟨pl, hev⟩ := hev (ksEnv qual scope s.heap.objs.size fI (.ref cda) cc)
  refine ks_wpAt_execs_cons (ks_wpAt_Expr_any (hi := not_interactive kf) (ks_wpAt_MethodCall (pl := pl) ?_ hev))
  refine ks_wpAt_super_base (env := ksEnv qual scope s.heap.objs.size fI (.ref cda) cc) ksu kcl (by decide) rfl (X₁ _ _ ho) rfl har rfl (X₁ _ _ hcode) rfl hvs hfile T.top ?_
  refine ks_loadName_global kf ksu (loadGlobal_builtin (env := ksEnv qual scope s.heap.objs.size fI (.ref cda) cc) (Gm.keeps hk₁) T.sup (Gb.keeps hk₁) hsb ⟨rfl, ?_⟩)
  refine wpAny_loadName_free kf kcl rfl ⟨_, X₁ _ _ hcell, rfl⟩ ?_
  refine wpAny_loadName_local kf (by rw [hself]; exact klo _ (by simp)) hns (by rw [hself]; exact bself) ?_
  have hC₁ := X₁ _ _ hC
  obtain ⟨hh, g, dr, tk, os⟩ := s
  refine ks_wpAny_isType_cls hC₁ rfl ⟨rfl, ?_⟩
  refine ks_wpAny_call_super hC₁ rfl hx₁ rfl (fun c e => by cases e) (looks_mroIn X₁ (hmr _ (by simp))) (fun h₂ e₂ kk₂ => ?_)
  have X₂ : K.In h₂ := X₁.keeps kk₂
  have hx₂ := kk₂ _ _ hx₁
  have hxC : x ≠ C := fun z => by
    rw [z, hC] at hnx
    cases hnx
  have I₂ : InstAt h₂ x (excD C t0 none) C none := ⟨hx₂, rfl, rfl, trivial⟩
  have along := T.dI
  refine kxs_getMethod kxs_ValueError (l₀ := .ref C :: .ref D :: veTail) e₂ (looks_opaque X₂ T.opq) (fun A Q E s k q => wpAny_bind ((looks_clsIn X₂ hcls) A _ E s k (wpAny_pure q))) (by simp [List.dropWhile_cons]) X₂ along
    (I₂.type.andThen (looks_subIn X₂ (show subIn K (.ref C) (.type "ValueError") = some true from hmr _ (by simp)))) hxC (by decide) ?_
  have hu₃ : (h₂.push (kxs_mw "ValueError.__init__" x)).get? h₂.objs.size = some (kxs_mw "ValueError.__init__" x) := Heap.get?_push_size _ rfl
  have kk₃ : ∀ b o, h₂.get? b = some o → (h₂.push (kxs_mw "ValueError.__init__" x)).get? b = some o := fun b o e => Heap.get?_push_of_some _ e
  refine kxs_callWith (i := "ValueError.__init__") (x := x) rfl ?_
  refine evalArgs_plain (Calls.spliced_cons (Calls.Constant_str (pos := p3) (k := j) (Calls.spliced_nil ⟨hu₃, ?_⟩)))
  refine call_mw (kk₃ _ _ (kk₂ _ _ hC₁)) (kk₃ _ _ hx₂) hu₃ (by show 1 ≤ sizeLine; rw [sizeLine_eq]; decide) fun h₄ t1 kk₄ hx₄ => ?_
  have old : ∀ b o, b ≠ x → hh.get? b = some o → h₄.get? b = some o := fun b o hb e => kk₄ b o hb (kk₃ b o (kk₂ b o (hk₁ b o e)))
  have X₄ : K.In h₄ := fun b o e => old b o (fun z => by rw [z, hnx] at e; cases e) (X b o e)
  have hns₄ : h₄.Ns hh.objs.size (fun y => ((("self" : Str) :: f :: fs).zip (Value.ref x :: u :: us)).reverse.lookup y) := by
    obtain ⟨oL, es, ep, hoL, r⟩ := hns
    exact ⟨oL, es, ep, kk₄ _ _ (Ne.symm xL) (kk₃ _ _ (kk₂ _ _ hoL)), r⟩
  have big : hh.objs.size ≤ h₄.objs.size := by
    obtain ⟨oL, es, ep, hoL, r⟩ := hns₄
    exact Nat.le_of_lt (Heap.lt_size hoL)
  cases ha with
  | @cons _ a b c d r _ ha =>
    refine wpAt_of_wpAny (wpAny_execs_cons (plainObj_wpAny_Assign_Attribute ?_))
    have ld : ∀ {y : Str} {p : Pos} {v : Value} {Q : Value → Shared → Prop} {E : Value → Shared → Prop} {tk : Nat}, scope.names.lookup y = some .local → (y == ("__debug__" : Str)) = false → ((("self" : Str) :: f :: fs).zip (Value.ref x :: u :: us)).reverse.lookup y = some v → Q v ⟨h₄, g, dr, tk, os⟩ →
        wpAny (model prog w) (A.deeper (ksEnv qual scope hh.objs.size fI (.ref cda) cc)) (eval (.Name y p) (ksEnv qual scope hh.objs.size fI (.ref cda) cc)) Q E ⟨h₄, g, dr, tk, os⟩ := fun hk2 hd hv hQ => wpAny_Name (wpAny_loadName_local kf hk2 hns₄ hv hQ) hd
    refine ld (klo f (by simp)) (hdb f (by simp)) (lookup_binds (v := u) T.nd (by simp)) (ld (klo _ (by simp)) (by decide) bself ?_)
    refine set_plain X₄ (ox := excD C t1 none) (od := none) ⟨hx₄, rfl, rfl, trivial⟩ T.sa ?_
    have rve : refsVE (.ref C :: .ref D :: veTail) = true := by show refsVE veTail = true; decide +kernel
    refine exc_osa X₄ hx₄ hcls rve rfl (T.noF f (by simp)) (fun h₅ tk₅ dx k₅ dn dne hx₅ hn₅ => ?_)
    have hdL : dx ≠ hh.objs.size := by
      obtain ⟨oL, es, ep, hoL, r⟩ := hns₄
      exact Nat.ne_of_gt (Nat.lt_of_lt_of_le (Heap.lt_size hoL) dn)
    refine stores (ml := fun y => (((("self" : Str) :: f :: fs).zip (Value.ref x :: u :: us)).reverse.lookup y)) (s := ⟨h₅, g, dr, tk₅, os⟩) (env := ksEnv qual scope hh.objs.size fI (.ref cda) cc) rfl kf hcls rve rfl T.sa xL bself (klo _ (by simp)) ha hl (fun y hy => T.noF y (by simp [hy])) (fun p hp => lookup_binds (us := .ref x :: u :: us) (k := p.1) (v := p.2) T.nd (List.mem_cons_of_mem _ (List.mem_cons_of_mem _ hp)))
      (fun y hy => ⟨klo y (by simp [hy]), hdb y (by simp [hy])⟩) (dx := dx) (nl := [f]) (fun b o e => k₅ b o (fun z => by rw [z, hnx] at e; cases e) (X₄ b o e)) ?_ hx₅ hn₅ (Within.cons f u Within.nil) ?_ hdL ?_ fun h' tk' k' n' => ?_
    · obtain ⟨oL, es, ep, hoL, r⟩ := hns₄
      exact ⟨oL, es, ep, k₅ _ _ (Ne.symm xL) hoL, r⟩
    · have := T.few
      simp at this ⊢
      omega
    · intro b hb z
      cases e : K.lookup b with
      | none => exact hb e
      | some o =>
        exact absurd (Heap.lt_size (X b o e)) (by rw [z]; exact Nat.not_lt.mpr (Nat.le_trans big dn))
    · refine hq h' tk' dx t1 ⟨fun b o hb e => ?_, k' _ _ (Ne.symm dne) hx₅, Nat.le_trans big dn, dne, n'⟩
      refine k' b o ?_ (k₅ b o hb (old b o hb e))
      intro z
      exact absurd (Heap.lt_size e) (by rw [z]; exact Nat.not_lt.mpr (Nat.le_trans big dn))
/-- a made exception -/
structure Made (h h' : Heap) (e C d : Addr) (m : Str → Option Value) : Prop where
  keep : ∀ b o, h.get? b = some o → h'.get? b = some o
  new : h.objs.size ≤ e
  obj : ∃ t1, h'.get? e = some (excD C t1 (some d))
  dbig : h.objs.size ≤ d
  dne : d ≠ e
  ns : h'.Ns1 d m
theorem ex_made {K : Frag} {mg mb : Str → Option Value} {C D fI : Addr} {f : Str} {fs : List Str} {u : Value} {us : List Value} {s : Shared} (T : ExTxt K prog mg C D fI (f :: fs)) (X : K.In s.heap) (hlim : s.heap.NoLimit)
    (Gm : s.heap.Ns mainGlobals mg) (Gb : s.heap.Ns builtinsNs mb) (hsb : mb "super" = some (.type "super")) (hdb : ∀ y ∈ f :: fs, (y == ("__debug__" : Str)) = false) (hl : us.length = fs.length) (hroom : A.depth + 1 < recursionLimit)
    (hq : ∀ h' tk e d, Made s.heap h' e C d (after fs us (fun y => if y = f then some u else none)) → R (.ok (.ret (.ref e))) { s with heap := h', toks := tk }) :
    codeAny (model prog w) A (.call (.ref C) ⟨u :: us, []⟩) R s := by
  obtain ⟨nm, q, N, bs, sn, sub, ab, col, dd, k0, k1, k2, k3, k5, hC⟩ := T.cls
  obtain ⟨hp, g, dr, tk, os⟩ := s
  have k : ∀ b o, hp.get? b = some o → ((hp.push (kdv_tup (u :: us))).push (excO C hp.objs.size)).get? b = some o := fun b o e => Heap.get?_push_of_some _ (Heap.get?_push_of_some _ e)
  have hget : ((hp.push (kdv_tup (u :: us))).push (excO C hp.objs.size)).get? (hp.objs.size + 1) = some (excO C hp.objs.size) := by heap_get
  have hnx : K.lookup (hp.objs.size + 1) = none := by
    cases e : K.lookup (hp.objs.size + 1) with
    | none => rfl
    | some o =>
      have z : hp.get? (hp.objs.size + 1) = some o := X _ _ e
      exact absurd (Nat.lt_of_succ_lt (Heap.lt_size z)) (Nat.lt_irrefl _)
  have hsz : (u :: us).length ≤ sizeLine := by
    have := T.few
    simp at this
    rw [sizeLine_eq]
    simp
    omega
  have hcon : ∀ X : String, (Value.ref D :: veTail).contains (.type X) = veTail.contains (.type X) := fun X => by rw [List.contains_cons]; rfl
  refine call_own F.excBase_ValueError hcon (X _ _ hC) (looks_findIn X T.iC) (fun self => bind_fn X self T.tI) hsz ?_
  refine ex_init (s := ⟨(hp.push (kdv_tup (u :: us))).push (excO C hp.objs.size), g, dr, tk, os⟩) T (X.keeps k) (hlim.keeps k) (Gm.keeps k) (Gb.keeps k) hsb hdb hget hnx hl ?_ fun h' tk' dx t1 ⟨k', hx, dn, dne, hns⟩ => ?_
  · show A.depth + 1 < recursionLimit
    exact hroom
  · have old : ∀ b o, hp.get? b = some o → h'.get? b = some o := fun b o e => k' b o (Nat.ne_of_lt (Nat.lt_succ_of_lt (Heap.lt_size e))) (k b o e)
    have z : hp.objs.size + 1 + 1 ≤ dx := by
      first
        | (simpa only [Heap.size_push] using dn)
        | exact dn
        | (have q := dn; rw [Heap.size_push, Heap.size_push] at q; exact q)
    exact ⟨rfl, hq h' tk' (hp.objs.size + 1) dx ⟨old, Nat.le_succ _, ⟨_, hx⟩, Nat.le_trans (Nat.le_trans (Nat.le_succ _) (Nat.le_succ _)) z, dne, hns⟩⟩
end
end MiX
end PySem

end

section
set_option maxHeartbeats 4000000
namespace MiS
open PySem PySem.Spec L2
open PyProof.Rows hiding St
open PySem.MiX (ExTxt Made)
open Mi (AV HC AH AX Res AS RS)

/-! ### own exceptions, made -/
def zipR : List Str → List V → List (Str × V) → List (Str × V)
  | f :: fs, v :: vs, acc => zipR fs vs ((f, v) :: acc)
  | _, _, acc => acc
theorem rel_after : ∀ {fs : List Str} {vs : List V} {us : List Value} {acc : List (Str × V)} {m : Str → Option Value}, Vals vs us → (∀ g, RelO (acc.lookup g) (m g)) → ∀ g, RelO ((zipR fs vs acc).lookup g) (PySem.MiX.after fs us m g)
  | [], _, _, _, _, _, r => r
  | f :: fs, _, _, acc, m, .nil, r => r
  | f :: fs, _, _, acc, m, .cons (a := x) (b := y) rx rr, r => rel_after (fs := fs) (acc := (f, x) :: acc) (m := fun z => if z = f then some y else m z) rr (relO_put rx r)
def tMkX (C : Addr) (fs : List Str) (ta : TA) : St → Hp → XK → Prop := fun σ H Q => ta σ H fun vs H1 => vs.length = fs.length ∧ ∀ d, H1 d = none → Q (.ref C) (some d) (upd H1 d (.xd (zipR fs vs [])))
theorem pmk_x {X : Cx} {C D fI : Addr} {x f : Str} {fs : List Str} {a : Expr} {es : List Expr} {ta : TA} {p pos : Pos} (T : ExTxt X.K X.prog X.mg C D fI (f :: fs)) (hdb : ∀ y ∈ f :: fs, (y == ("__debug__" : Str)) = false) (gC : X.mg x = some (.ref C)) (eC : PySem.W.subIn X.K (.ref C) (.type "BaseException") = some true) (tC : PySem.W.typeIn X.K (.ref C) = some (.type "type"))
    (hd : X.A.depth + 1 < recursionLimit) (ha : PA X (a :: es) ta) (hg : Gl X x) (hdx : (x == ("__debug__" : Str)) = false := by decide)
    (he : starEach (a :: es) X.env = (false, eval a X.env) :: starEach es X.env := by rfl) (hpl : (backTo pos (starEach es X.env)).any (·.1) = false := by rfl) :
    L2N.PMk X (.Call (.Name x p) (a :: es) [] pos) (tMkX C (f :: fs) ta) := by
  intro pins s σ H Q I h
  refine wpAny_Call_Name_kw (ld_glob I hg gC ?_ hdx)
  refine PySem.W.callWith_K (h₀ := X.base) I.ok.mod.kin T.kC (thn (ha.run pos pins s σ H _ I h) fun us s1 hh => ?_) he hpl
  obtain ⟨vs, H1, I1, r1, ev, q1⟩ := hh
  refine ⟨I1.kIn, ?_⟩
  have hus : us.length = (f :: fs).length := by rw [← r1.length]; exact ev
  cases us with
  | nil => cases hus
  | cons u us =>
    show wpAny _ _ (call (.ref C) (u :: us)) _ _ _
    have hlim := I1.nolimit
    obtain ⟨mb, b1, b2⟩ := I1.mod.blt
    obtain ⟨hp, g, dr, tk, os⟩ := s1
    refine wpAny_call (PySem.MiX.ex_made T I1.kIn hlim (I1.mod.glob.keeps I1.bk) (b1.keeps I1.bk) ((b2 "super" (by decide)).trans PyProof.Rows.Boot.«super») hdb (by simpa using hus) hd fun h' tk' e d M => ?_)
    show L2N.MkP X pins σ Q (.ref e) ⟨h', g, dr, tk', os⟩
    obtain ⟨t1, hoe⟩ := M.obj
    have hns := M.ns
    obtain ⟨G', g1, g2⟩ := restrict h' fun b => decide (b ≠ e)
    have gk : ∀ b, b ≠ e → G'.get? b = h'.get? b := fun b hb => g1 b (decide_eq_true hb)
    have ge : G'.get? e = none := g2 e (by simp)
    have old : ∀ b o, hp.get? b = some o → G'.get? b = some o := fun b o q => (gk b (Nat.ne_of_lt (Nat.lt_of_lt_of_le (Heap.lt_size q) M.new))).trans (M.keep b o q)
    have ob : ObjOk X.prog X.w (upd H1 d (.xd (zipR (f :: fs) vs []))) G' d (.xd (zipR (f :: fs) vs [])) :=
      ⟨_, hns.at (fun o q => (gk d M.dne).trans q), fun y => by
        cases r1 with
        | cons rx rr => exact rel_after (acc := [(f, _)]) rr (relO_put (fs := []) (mA := fun _ => none) rx fun g => True.intro) y⟩
    have J : Inv X pins σ (upd H1 d (.xd (zipR (f :: fs) vs []))) ⟨G', g, dr, tk', os⟩ := I1.laid (t' := tk') old M.dbig ob
    refine ⟨e, _, _, ⟨G', g, dr, tk', os⟩, _, .ref C, some d, rfl, J, fun b o q => ?_, ge, hoe, ⟨rfl, rfl, fun vs z => by cases z; rfl⟩, rfl, rfl, ?_, rfl, I1.bare, raises_own eC tC, q1 d (I1.hok.fresh M.dbig)⟩
    · by_cases hb : b = e
      · have q' : G'.get? b = some o := q
        rw [hb, ge] at q'; cases q'
      · exact (gk b hb).symm.trans q
    · rw [upd_ne (Ne.symm M.dne)]
      exact I1.hok.fresh M.new
/-! ### raise -/
theorem zipS_app : ∀ {as : List String} {bs : List String} {vs ws : List V}, as.length = vs.length → zipS (as ++ bs) (vs ++ ws) = zipS as vs ++ zipS bs ws
  | [], _, [], _, _ => by simp [zipS]
  | a :: as, _, v :: vs, _, h => by
    show zipS (a :: (as ++ _)) (v :: (vs ++ _)) = _
    simp only [zipS]
    rw [zipS_app (by simpa using h)]
    rfl
  | [], _, _ :: _, _, h => by cases h
  | _ :: _, _, [], _, h => by cases h
theorem zipR_rev : ∀ {fs : List String} {vs : List V} {acc : List (Str × V)}, fs.length = vs.length → zipR (fs.map PySem.Str.ofString) vs acc = zipS fs.reverse vs.reverse ++ acc
  | [], [], acc, _ => rfl
  | f :: fs, v :: vs, acc, h => by
    have h' : fs.length = vs.length := by simpa using h
    show zipR (fs.map PySem.Str.ofString) vs (((f : Str), v) :: acc) = _
    rw [zipR_rev h', List.reverse_cons, List.reverse_cons, zipS_app (by simpa using h')]
    simp [zipS]
  | [], _ :: _, _, h => by cases h
  | _ :: _, [], _, h => by cases h
section
variable {ct : Ct} {X : Cx} {W : WX} {pos : Pos} {st : Stmt}
theorem qs_raise {e : Expr} {C : Addr} {c : String} {fs : List String} {ma : Mi.A} (hc : X.calm = true) (tk : L2N.Takes X W) (hcl : ct.cl c = .ref C) (he : L2N.PMk X e (tMkX C (fs.map PySem.Str.ofString) (tM X.K ct W (RA X.K) ma))) :
    QS ct X W (.Raise (some e) none pos) (Mi.sRaise c fs ma) := PS.imp (L2N.ps_raise hc tk he) fun D σ H ⟨c', h, as, e, rh, rs, q⟩ => by
  subst e
  refine st_bind rh rs q fun d h1 a vs hx e1 rh1 rs1 r1 q1 => ?_
  split at q1
  · rename_i hl
    have hlen : a.length = vs.length := RepL.length r1
    refine ⟨by rw [List.length_map]; omega, fun dd hd => ?_⟩
    have e2 : Ext d (d.at (upd d.H dd (.xd (zipR (fs.map PySem.Str.ofString) vs [])))) := ext_new hd
    obtain ⟨n1, n2⟩ := rh1.new_ne hd
    have r2 : RepL X.K d a vs := r1
    refine q1 (d.at (upd d.H dd (.xd (zipR (fs.map PySem.Str.ofString) vs [])))) σ (.ref C) (some dd) rfl e2 (rh1.laid hd) (rs1.ext e2) ⟨hcl.symm, dd, vs.reverse, rfl, ?_, n1, n2, by simp [hl], RepL.ext e2 _ r2.reverse⟩
    show upd d.H dd _ dd = _
    rw [upd_same, zipR_rev (by omega), List.append_nil]
  · exact q1.elim
end

/-! ### the own exception classes -/
structure XOne (K : Fg) (v : Value) (flds : List Str) (C : Addr) : Prop where
  eq : v = .ref C
  xf : XfC K C
  cl : (PySem.W.clsIn K C).isSome = true
  ha : PySem.W.findIn K (.ref C) "__class__" = some (some (.builtin "object.__class__"))
  hn : PySem.W.specialIn K (.builtin "object.__class__") "__get__" = some (some (.builtin "getset_descriptor.__get__"))
  ht : PySem.W.takesIn K (.builtin "object.__class__") = some true
  hm : PySem.W.mroIn K C (.type "object") = some true
  no : ∀ f ∈ flds, PySem.W.findIn K (.ref C) f = some none
structure XTab (K : Fg) (ct : Ct) (sub : String → String → Option Bool) (flds : List Str) : Prop where
  one : ∀ c d b, sub c d = some b → ∃ C, XOne K (ct.cl c) flds C
  exm : ∀ c d b, sub c d = some b → PySem.W.exmOne K (ct.cl c) (ct.cl d) = some b
  kit : ∀ c d b, sub c d = some b → PySem.W.kitOne K (ct.cl c) (ct.cl d) = some b
section
variable {ct : Ct} {X : Cx} {pos : Pos}
theorem str_inj {a b : String} (h : PySem.Str.ofString a = PySem.Str.ofString b) : a = b := by
  rw [PySem.Str.ofString_eq_toList, PySem.Str.ofString_eq_toList] at h
  have h1 : a.toList.map Char.toNat = b.toList.map Char.toNat := by simpa using h
  have inj : ∀ (x y : List Char), x.map Char.toNat = y.map Char.toNat → x = y := by
    intro x
    induction x with
    | nil =>
      intro y e
      cases y with
      | nil => rfl
      | cons _ _ => cases e
    | cons c x ih =>
      intro y e
      cases y with
      | nil => cases e
      | cons d y =>
        obtain ⟨e1, e2⟩ := List.cons.inj e
        rw [Char.toNat_inj.mp e1, ih y e2]
  exact String.toList_inj.mp (inj _ _ h1)
theorem zipS_look {K : Fg} {c : Cn} : ∀ {ns : List String} {xs : List AV} {vs : List V} {f : String} {x : AV}, RepL K c xs vs → (ns.zip xs).lookup f = some x → ∃ v, (zipS ns vs).lookup (f : Str) = some v ∧ Rep K c x v
  | [], _, _, _, _, _, h => by simp at h
  | n :: ns, [], _, _, _, _, h => by simp at h
  | n :: ns, y :: xs, vs, f, x, r, h => by
    rw [repL_cons] at r
    obtain ⟨v, w, rfl, r1, r2⟩ := r
    show ∃ v', (((n : Str), v) :: zipS ns w).lookup (f : Str) = some v' ∧ _
    rw [List.zip_cons_cons, List.lookup] at h
    split at h
    · rename_i e
      cases h
      rw [beq_iff_eq] at e
      subst e
      exact ⟨v, by simp [List.lookup], r1⟩
    · rename_i e
      have e' : ((f : Str) == (n : Str)) = false := by
        rw [beq_eq_false_iff_ne] at e ⊢
        intro z
        exact e (str_inj z)
      rw [List.lookup, e']
      exact zipS_look r2 h
theorem HoldS.get {K : Fg} {c : Cn} {as : AS} {σ : St} {i : Nat} {a : Addr} {c0 : String} {dd : Addr} (h : HoldS K (ct.hold i a c0 dd) c as σ) :
    σ[i]? = some (some (.ref a)) ∧ ∃ ns xs vs, as[i]? = some (some (.xcp c0 ns xs)) ∧ c.H dd = some (.xd (zipS ns vs)) ∧ dd ∉ c.ρ ∧ dd ∉ c.X ∧ ns.length = xs.length ∧ RepL K c xs vs := h
/-- e.f -/
theorem q_xf {i : Nat} {a C : Addr} {c0 : String} {dd : Addr} {oe : Obj} {pn : List (Addr × Obj)} {W : WX} {n : Str} {f : String} {p : Pos} {flds : List Str} (T : XOne X.K (ct.cl c0) flds C) (hm : (f : Str) ∈ flds) (hz : L2N.Zn (ct.cl c0) (some dd) oe) (hf : ∃ vs, oe.data = .fields vs)
    (hN : X.N[i]? = some n) (hv : Vis X.env.scope n) (hd : (n == ("__debug__" : Str)) = false) (hcd : (n == ("__classdict__" : Str)) = false) (hb : attributeBase (.Name n p) (f : Str) X.env (eval (.Name n p) X.env) = eval (.Name n p) X.env) :
    QE (ct.hold i a c0 dd) (X.suite a ((a, oe) :: pn)) W (.Attribute (.Name n p) (f : Str) pos) (Mi.eXf f i) :=
  PE.imp (pe_xf (cls := ct.cl c0) (d := some dd) T.xf (T.no _ hm) hz.zc hf (pe_var (i := i) hN hv hd hcd) hb) fun σ H Q ⟨c, h, as, e, rh, rs, q⟩ => by
    subst e
    obtain ⟨g1, ns, xs, vs, g2, g3, g4, g5, g6, g7⟩ := rs.2.2.get
    unfold Mi.eXf at q
    rw [g2] at q
    dsimp only at q
    split at q
    · rename_i v hl
      obtain ⟨w, h1, h2⟩ := zipS_look g7 hl
      exact ⟨_, g1, rfl, T.eq, dd, _, w, rfl, g3, h1, q c w rfl (.refl c) rh h2⟩
    · exact q.elim
/-- isinstance of the suite's exception, one class | a tuple of classes -/
def rIsX (K : Fg) (tv : Value) (a dd : Addr) : List V → Hp → VK → Prop := fun xs H Q => ∃ (C : Addr) (fs : List (Str × V)) (b : Bool), xs = [.ref a, .ref C] ∧ H dd = some (.xd fs) ∧ PySem.W.kitOne K tv (.ref C) = some b ∧ Q (.bl b) H
def rIsXT (K : Fg) (tv : Value) (a dd : Addr) : List V → Hp → VK → Prop := fun xs H Q => ∃ (tp : Addr) (cs : List Addr) (fs : List (Str × V)) (b : Bool), xs = [.ref a, .ref tp] ∧ H tp = some (.tup (cs.map V.ref)) ∧ H dd = some (.xd fs) ∧ PySem.W.kitAny K tv (cs.map Value.ref) = some b ∧ Q (.bl b) H
theorem inst_x {a C dd : Addr} {oe : Obj} {pn pins : List (Addr × Obj)} {v : Value} {flds : List Str} {σ : St} {H : Hp} {s : Shared} {fs : List (Str × V)} (T : XOne X.K v flds C) (hz : L2N.Zn v (some dd) oe) (hf : ∃ vs, oe.data = .fields vs)
    (I : Inv (X.suite a ((a, oe) :: pn)) pins σ H s) (e : H dd = some (.xd fs)) : ∃ od, PySem.W.InstAt s.heap a oe C od := by
  obtain ⟨hget, _⟩ := I.pin (a, oe) (List.mem_append.mpr (.inl List.mem_cons_self))
  obtain ⟨vs, hv⟩ := hf
  have hx : ObjOk X.prog X.w H s.heap dd (.xd fs) := I.hok dd _ e
  obtain ⟨mA, hns, hr⟩ := hx
  obtain ⟨od, es, ep, ho, _⟩ := hns
  exact ⟨some od, hget, hz.1.trans T.eq, by unfold PySem.W.notCls; rw [hv] <;> rfl, by rw [hz.2.1]; exact ho⟩
theorem call_isX {a C dd : Addr} {oe : Obj} {pn : List (Addr × Obj)} {v : Value} {flds : List Str} (T : XOne X.K v flds C) (hz : L2N.Zn v (some dd) oe) (hf : ∃ vs, oe.data = .fields vs) : CallR (X.suite a ((a, oe) :: pn)) (.builtin "isinstance") (rIsX X.K v a dd) := by
  intro pins s σ H xs us Q I r h
  obtain ⟨D, fs, b, rfl, e, hk, q⟩ := h
  cases r with
  | cons rx rr =>
    cases rr with
    | cons rt rr =>
      cases rr
      cases rx
      cases rt
      obtain ⟨od, J⟩ := inst_x T hz hf I e
      rw [T.eq] at hk
      exact PySem.W.kia_one (PySem.W.kitx_exc T.cl T.xf.ga T.xf.gg T.xf.exC T.ha T.hn T.ht T.hm) I.kIn J hk (fun z => nomatch z) fun tk => ⟨.bl b, H, I.kept (t' := tk) fun _ _ z => z, rfl, q⟩
theorem vals_refs : ∀ {cs : List Addr} {us : List Value}, Vals (cs.map V.ref) us → us = cs.map Value.ref
  | [], _, .nil => rfl
  | c :: cs, _, .cons r t => by
    rw [vals_refs t]
    cases (show _ = Value.ref c from r)
    rfl
theorem call_isXT {a C dd : Addr} {oe : Obj} {pn : List (Addr × Obj)} {v : Value} {flds : List Str} (T : XOne X.K v flds C) (hz : L2N.Zn v (some dd) oe) (hf : ∃ vs, oe.data = .fields vs) : CallR (X.suite a ((a, oe) :: pn)) (.builtin "isinstance") (rIsXT X.K v a dd) := by
  intro pins s σ H xs us Q I r h
  obtain ⟨tp, cs, fs, b, rfl, hT, e, hk, q⟩ := h
  cases r with
  | cons rx rr =>
    cases rr with
    | cons rt rr =>
      cases rr
      cases rx
      cases rt
      obtain ⟨od, J⟩ := inst_x T hz hf I e
      obtain ⟨_, its, rv, o, h1, h2, n, h3⟩ := (show ObjOk X.prog X.w H s.heap tp (.tup (cs.map V.ref)) from I.hok tp _ hT)
      have e3 := vals_refs rv
      subst e3
      obtain ⟨oc, odd, dt, sl⟩ := o
      simp only at h2 h3
      subst h2 h3
      rw [T.eq] at hk
      exact PySem.W.kia_tup (PySem.W.kitx_exc T.cl T.xf.ga T.xf.gg T.xf.exC T.ha T.hn T.ht T.hm) I.kIn J h1 hk (fun z => nomatch z) fun tk => ⟨.bl b, H, I.kept (t' := tk) fun _ _ z => z, rfl, q⟩
/-- names of own classes -/
inductive Globs (X : Cx) (cl : String → Value) : List Expr → List String → List Addr → Prop
  | nil : Globs X cl [] [] []
  | cons {y : Str} {p : Pos} {c : String} {C : Addr} {es : List Expr} {cs : List String} {Cs : List Addr} (hg : Gl X y) (hm : X.mg y = some (.ref C)) (hc : cl c = .ref C) (hd : (y == ("__debug__" : Str)) = false) (hs : starEach (.Name y p :: es) X.env = (false, eval (.Name y p) X.env) :: starEach es X.env) (r : Globs X cl es cs Cs) :
    Globs X cl (.Name y p :: es) (c :: cs) (C :: Cs)
theorem pa_globs {cl : String → Value} {es : List Expr} {cs : List String} {Cs : List Addr} (g : Globs X cl es cs Cs) : PA X es (fun _ H Q => Q (Cs.map V.ref) H) := by
  induction g with
  | nil => exact pa_nil
  | cons hg hm hc hd hs r ih => exact PA.imp (pa_cons (pe_glob hg hm (v := .ref _) rfl hd) ih hs) fun _ _ _ h => h
theorem Globs.map {cl : String → Value} {es : List Expr} {cs : List String} {Cs : List Addr} (g : Globs X cl es cs Cs) : cs.map cl = Cs.map Value.ref := by
  induction g with
  | nil => rfl
  | cons hg hm hc hd hs r ih => rw [List.map_cons, List.map_cons, hc, ih]
theorem kit_any {K : Fg} {sub : String → String → Option Bool} {flds : List Str} (tab : XTab K ct sub flds) {c0 : String} : ∀ {cs : List String} {b : Bool}, Mi.orAll (cs.map (sub c0)) = some b → PySem.W.kitAny K (ct.cl c0) (cs.map ct.cl) = some b
  | [], b, h => by cases h; rfl
  | c :: cs, b, h => by
    rw [List.map_cons] at h ⊢
    cases z : sub c0 c with
    | none =>
      rw [z] at h
      cases h
    | some b1 =>
      rw [z] at h
      obtain ⟨b2, h2, rfl⟩ := Option.map_eq_some_iff.mp (show (Mi.orAll (cs.map (sub c0))).map (b1 || ·) = some b from h)
      unfold PySem.W.kitAny
      rw [tab.kit _ _ _ z]
      cases b1 with
      | true => rfl
      | false =>
        dsimp only
        rw [kit_any tab h2, Bool.false_or]
variable {sub : String → String → Option Bool}
theorem q_xis {i : Nat} {a C D : Addr} {c0 d0 : String} {dd : Addr} {oe : Obj} {pn : List (Addr × Obj)} {W : WX} {n y : Str} {p p1 p2 : Pos} {flds : List Str} (tab : XTab X.K ct sub flds) (T : XOne X.K (ct.cl c0) flds C) (hz : L2N.Zn (ct.cl c0) (some dd) oe) (hf : ∃ vs, oe.data = .fields vs)
    (hg : Gl X "isinstance") (hm : X.mg "isinstance" = none) (hgy : Gl X y) (hmy : X.mg y = some (.ref D)) (hcy : ct.cl d0 = .ref D) (hdy : (y == ("__debug__" : Str)) = false)
    (hN : X.N[i]? = some n) (hv : Vis X.env.scope n) (hd : (n == ("__debug__" : Str)) = false) (hcd : (n == ("__classdict__" : Str)) = false)
    (he : starEach (.Name n p1 :: [.Name y p2]) X.env = (false, eval (.Name n p1) X.env) :: starEach [.Name y p2] X.env := by rfl) (he2 : starEach [.Name y p2] X.env = (false, eval (.Name y p2) X.env) :: starEach [] X.env := by rfl)
    (hpl : (backTo pos (starEach [.Name y p2] X.env)).any (·.1) = false := by rfl) :
    QE (ct.hold i a c0 dd) (X.suite a ((a, oe) :: pn)) W (.Call (.Name "isinstance" p) [.Name n p1, .Name y p2] [] pos) (Mi.eXis sub [d0] i) :=
  PE.imp (pe_callB (X := X.suite a ((a, oe) :: pn)) (call_isX T hz hf) hg hm (by decide +kernel) (pa_cons (pe_var (i := i) hN hv hd hcd) (pa_cons (pe_glob hgy hmy (v := .ref D) rfl hdy) pa_nil he2) he) (by decide) (by decide) he hpl) fun σ H Q ⟨c, h, as, e, rh, rs, q⟩ => by
    subst e
    obtain ⟨g1, ns, xs, vs, g2, g3, g4, g5, g6, g7⟩ := rs.2.2.get
    unfold Mi.eXis at q
    rw [g2] at q
    dsimp only at q
    split at q
    · rename_i b hb
      have hk := kit_any tab hb
      have h1 : sub c0 d0 = some b := by
        cases z : sub c0 d0 with
        | none => simp [Mi.orAll, z] at hb
        | some b1 =>
          simp [Mi.orAll, z] at hb
          rw [hb]
      refine ⟨_, g1, D, _, b, rfl, g3, ?_, q c _ rfl (.refl c) rh (rep_bl.mpr rfl)⟩
      rw [← hcy]
      exact tab.kit _ _ _ h1
    · exact q.elim
theorem q_xisT {i : Nat} {a C : Addr} {c0 : String} {ds : List String} {Ds : List Addr} {dd : Addr} {oe : Obj} {pn : List (Addr × Obj)} {W : WX} {n : Str} {p p1 p2 : Pos} {k2 : Nat} {es : List Expr} {flds : List Str} (tab : XTab X.K ct sub flds) (T : XOne X.K (ct.cl c0) flds C) (hz : L2N.Zn (ct.cl c0) (some dd) oe) (hf : ∃ vs, oe.data = .fields vs)
    (hg : Gl X "isinstance") (hm : X.mg "isinstance" = none) (gl : Globs (X.suite a ((a, oe) :: pn)) ct.cl es ds Ds) (hl : Ds.length ≤ 100)
    (hN : X.N[i]? = some n) (hv : Vis X.env.scope n) (hd : (n == ("__debug__" : Str)) = false) (hcd : (n == ("__classdict__" : Str)) = false)
    (he : starEach (.Name n p1 :: [.Tuple es k2 p2]) X.env = (false, eval (.Name n p1) X.env) :: starEach [.Tuple es k2 p2] X.env := by rfl) (he2 : starEach [.Tuple es k2 p2] X.env = (false, eval (.Tuple es k2 p2) X.env) :: starEach [] X.env := by rfl)
    (hpl : (backTo pos (starEach [.Tuple es k2 p2] X.env)).any (·.1) = false := by rfl) :
    QE (ct.hold i a c0 dd) (X.suite a ((a, oe) :: pn)) W (.Call (.Name "isinstance" p) [.Name n p1, .Tuple es k2 p2] [] pos) (Mi.eXis sub ds i) :=
  PE.imp (pe_callB (X := X.suite a ((a, oe) :: pn)) (call_isXT T hz hf) hg hm (by decide +kernel) (pa_cons (pe_var (i := i) hN hv hd hcd) (pa_cons (pe_tup (pa_globs gl)) pa_nil he2) he) (by decide) (by decide) he hpl) fun σ H Q ⟨c, h, as, e, rh, rs, q⟩ => by
    subst e
    obtain ⟨g1, ns, xs, vs, g2, g3, g4, g5, g6, g7⟩ := rs.2.2.get
    unfold Mi.eXis at q
    rw [g2] at q
    dsimp only at q
    split at q
    · rename_i b hb
      have hk := kit_any tab hb
      rw [gl.map] at hk
      refine ⟨_, g1, by rw [List.length_map, sizeLine_eq]; omega, fun tp hp => ⟨tp, Ds, _, b, rfl, upd_same, (upd_ne (ne_of_none g3 hp)).trans g3, hk, ?_⟩⟩
      exact q (c.at (upd c.H tp (.tup (Ds.map V.ref)))) _ rfl (ext_new hp) (rh.laid hp) (rep_bl.mpr rfl)
    · exact q.elim
/-! ### try -/
inductive HdsQ (ct : Ct) (X : Cx) (flds : List Str) : List ExceptHandler → List Mi.Hd → Prop
  | nil : HdsQ ct X flds [] []
  | plain {x : Str} {c : String} {s : Mi.S} {b₀ : Stmt} {suite : List Stmt} {np pos' : Pos} {hds : List ExceptHandler} {l : List Mi.Hd} (hc : Names X x (ct.cl c))
      (hsu : ∀ (a : Addr) (oe : Obj) (cls : Value) (d : Option Addr) (pn : List (Addr × Obj)), L2N.Zn cls d oe → (∃ vs, oe.data = .fields vs) → QSs ct (X.suite a ((a, oe) :: pn)) W0 (b₀ :: suite) s) (r : HdsQ ct X flds hds l) :
      HdsQ ct X flds (.ExceptHandler (some (.Name x np)) none (b₀ :: suite) pos' :: hds) ((c, none, s) :: l)
  | named {x n : Str} {i : Nat} {c : String} {s : Mi.S} {b₀ : Stmt} {suite : List Stmt} {np pos' : Pos} {hds : List ExceptHandler} {l : List Mi.Hd} (hc : Names X x (ct.cl c)) (hi : X.N[i]? = some n) (hln : X.env.kindOf n = some .local)
      (hsu : ∀ (a C : Addr) (oe : Obj) (c0 : String) (dd : Addr) (pn : List (Addr × Obj)), XOne X.K (ct.cl c0) flds C → L2N.Zn (ct.cl c0) (some dd) oe → (∃ vs, oe.data = .fields vs) → QSs (ct.hold i a c0 dd) (X.suite a ((a, oe) :: pn)) W0 (b₀ :: suite) s) (r : HdsQ ct X flds hds l) :
      HdsQ ct X flds (.ExceptHandler (some (.Name x np)) (some n) (b₀ :: suite) pos' :: hds) ((c, some i, s) :: l)
/-- what the clauses wish of an exception of the body -/
def wTry (K : Fg) (ct : Ct) (Wout : WX) (D : Ends) (sub : String → String → Option Bool) (l : List Mi.Hd) : WX := fun cls d σ H => ∃ (c : Cn) (h : AH) (as : AS) (e : AX), c.H = H ∧ RepH K c h ∧ RepS K ct c as σ ∧ RepX K ct c cls d e ∧ PostS K ct Wout D c (Mi.handle sub e as h l)
theorem RepS.enter {K : Fg} {ct : Ct} {c : Cn} {as : AS} {σ : St} {i : Nat} {a : Addr} {cls : Value} {od : Option Addr} {e : AX} (h0 : ct.xa = none) (h : RepS K ct c as σ) (hi : i < σ.length) (hx : RepX K ct c cls od e) :
    ∃ dd, od = some dd ∧ RepS K (ct.hold i a e.cls dd) c (as.set i (some (.xcp e.cls e.ns e.xs))) (σ.set i (some (.ref a))) := by
  obtain ⟨hc, dd, vs, rfl, h3, h4, h5, h6, h7⟩ := hx
  refine ⟨dd, rfl, by simp [h.1], fun j x hj hy => ?_, List.getElem?_set_self hi, e.ns, e.xs, vs, List.getElem?_set_self (by rw [h.1]; exact hi), h3, h4, h5, h6, h7⟩
  have ne : i ≠ j := fun z => by
    subst z
    simp [Ct.ok, Ct.hold] at hj
  rw [List.getElem?_set_ne ne] at hy ⊢
  exact h.2.1 j x (by unfold Ct.ok; rw [h0]) hy
theorem RepS.leave {K : Fg} {ct : Ct} {c : Cn} {as : AS} {σ : St} {i : Nat} {a : Addr} {c0 : String} {dd : Addr} (h0 : ct.xa = none) (h : RepS K (ct.hold i a c0 dd) c as σ) : RepS K ct c (as.set i none) (σ.set i none) := by
  refine ⟨by simp [h.1], fun j x hj hy => ?_, by unfold HoldS; rw [h0]; trivial⟩
  by_cases e : i = j
  · subst e
    by_cases hi : i < as.length
    · rw [List.getElem?_set_self hi] at hy
      cases hy
    · rw [List.getElem?_eq_none (by simpa using hi)] at hy
      cases hy
  · rw [List.getElem?_set_ne e] at hy ⊢
    exact h.2.1 j x (by simp [Ct.ok, Ct.hold, e]) hy
/-- the ends of a suite, by the ends behind it -/
theorem suite_plain {K : Fg} {D : Ends} {c : Cn} {Wout : WX} {r : RS} (h : PostS K ct Wout D c (Mi.suEnd none r)) : PostS K ct W0 D c r := by
  cases r with
  | nx as h' => exact h
  | rt v h' => exact h
  | bk as h' => exact h
  | ct as h' => exact h
  | ex e as h' => exact h.elim
  | no => exact h.elim
theorem suite_named {K : Fg} {D : Ends} {c : Cn} {Wout : WX} {r : RS} {i : Nat} {a : Addr} {c0 : String} {dd : Addr} (h0 : ct.xa = none) (h : PostS K ct Wout D c (Mi.suEnd (some i) r)) :
    PostS K (ct.hold i a c0 dd) W0 { nx := fun σ' H' => D.nx (σ'.set i none) H', rt := D.rt, bk := fun σ' H' => D.bk (σ'.set i none) H', ct := fun σ' H' => D.ct (σ'.set i none) H' } c r := by
  cases r with
  | nx as h' => exact fun d σ hx e rh rs => h d _ hx e rh (rs.leave h0)
  | rt v h' => exact h
  | bk as h' => exact fun d σ hx e rh rs => h d _ hx e rh (rs.leave h0)
  | ct as h' => exact fun d σ hx e rh rs => h d _ hx e rh (rs.leave h0)
  | ex e as h' => exact h.elim
  | no => exact h.elim
section
variable {body : List Stmt} {h₀ : ExceptHandler} {hds : List ExceptHandler} {l : List Mi.Hd} {mb : Mi.S} {Wout : WX} {flds : List Str}
theorem qs_try (tab : XTab X.K ct sub flds) (hxa : ct.xa = none) (hs : X.stack = X.env :: X.outer) (hf : X.env.frame = some X.env.locals) (hN : X.N.Nodup) (tk : L2N.Takes X Wout)
    (hb : ∀ (W : WX) (pn : List (Addr × Obj)) (xe : Value → Shared → Prop), L2N.Takes (X.tr pn xe) W → PassesOwn (model X.prog X.w) X.A X.env xe → QSs ct (X.tr pn xe) W body mb)
    (hh : HdsQ ct X flds (h₀ :: hds) l) : QS ct X Wout (.Try body (h₀ :: hds) [] [] pos) (Mi.sTry sub mb l) := by
  refine ⟨fun pins s σ H D I hm => ?_⟩
  have ok := I.ok
  have hfr : X.A.frames = some (X.env :: X.outer) := by rw [ok.frames, hs]
  have hm2 : sM X.K ct (wTry X.K ct Wout D sub l) mb D σ H := by
    obtain ⟨c, h, as, e, rh, rs, q⟩ := hm
    refine ⟨c, h, as, e, rh, rs, ?_⟩
    unfold Mi.sTry at q
    cases z : mb as h with
    | nx as1 h1 => rw [z] at q; exact q
    | rt v h1 => rw [z] at q; exact q
    | bk as1 h1 => rw [z] at q; exact q
    | ct as1 h1 => rw [z] at q; exact q
    | ex e1 as1 h1 =>
      rw [z] at q
      exact fun d σ1 cls od hx e2 rh1 rs1 rx => ⟨d, h1, as1, e1, rfl, rh1, rs1, rx, PostS.mono hx e2 q⟩
    | no => rw [z] at q; exact q
  refine wpAny_Try_except ?_
  refine wpAny_mono ((hb (wTry X.K ct Wout D sub l) (X.pn ++ pins) (fun e s₁ => wpAny (model X.prog X.w) X.A (noteFrame e X.env) (fun _ s₂ => wpAny (model X.prog X.w) X.A (setFlight e none) (fun _ s₃ =>
    wpAny (model X.prog X.w) X.A (handleBy e X.env (h₀ :: hds)) (SP X pins D) X.xe s₃) X.xe s₂) X.xe s₁) (fun u s' xx => ?_) PassesOwn.looking).run [] s σ H D (I.toTry _) hm2) (fun f s1 hsp => ?_) (fun e s1 he => he)
  · -- the catch
    obtain ⟨a, B, sI, pins', σ', H', cls, d, rfl, J', nb, up, sky, na, os, ag, w⟩ := xx
    have J : Inv X pins σ' H' sI := J'.ofTry ok
    have sky' : Sky B (X.env :: X.outer) a (L2N.Zn cls d) X.env.locals s'.heap := by rw [← hs]; exact sky
    show wpAny (model X.prog X.w) X.A (noteFrame (.ref a) X.env) _ _ _
    refine L2N.Sky.land L2N.Zn.steady hfr hf sky' fun h3 fl3 up3 => ?_
    have J3 : Inv X pins σ' H' { s' with heap := h3 } := J.landed nb fl3.1 (up.trans up3) os ag
    obtain ⟨oe3, vs3, he3, hz3, hd3⟩ := fl3.there
    have notFr : ∀ {h : Heap} {o : Obj} {vs : Array Value}, h.FunFrames B (X.env :: X.outer) → h.get? a = some o → o.data = .fields vs → a ∉ frs (X.env :: X.outer) := fun {h o vs} ff e dd hm => by
      obtain ⟨_, o', e', hnf⟩ := ff.mem hm
      rw [e] at e'; cases e'
      exact hnf _ dd
    have nfr := notFr fl3.2.2.1 he3 hd3
    have nL : a ≠ X.env.locals := fun z => nfr (List.mem_filterMap.mpr ⟨X.env, List.mem_cons_self, by rw [hf, z]⟩)
    have nF : a ∉ X.fs := fun hm => by
      obtain ⟨e, he, q⟩ := List.mem_filterMap.mp hm
      exact nfr (List.mem_filterMap.mpr ⟨e, List.mem_cons_of_mem _ he, q⟩)
    have S3 := J3.suite he3 hd3 na nL nF
    obtain ⟨c, h, as, e, ec, rh, rs, rx, q⟩ := w
    subst ec
    have hlen : σ'.length = X.N.length := J.len
    have go : ∀ {hds' : List ExceptHandler} {l' : List Mi.Hd}, HdsQ ct X flds hds' l' → PostS X.K ct Wout D c (Mi.handle sub e as h l') →
        wpAny (model X.prog X.w) X.A (handleBy (.ref a) X.env hds') (SP X pins D) X.xe { s' with heap := h3 } := by
      intro hds' l' hk
      have LT : PySem.W.Looks (model X.prog X.w) h3 (typeOf (.ref a)) cls := fun A Q E s k q => wpAny_typeOf_ref (k _ _ he3) (by rw [hz3.1]; exact q)
      have test : ∀ {x : Str} {cv : Value} {np : Pos} {Q : Value → Shared → Prop} {E : Value → Shared → Prop}, Names X x cv → Q cv { s' with heap := h3 } → wpAny (model X.prog X.w) (X.A.mark (some (.ref a))) (eval (.Name x np) X.env) Q E { s' with heap := h3 } := fun {x cv np Q E} hc q => by
        obtain ⟨hg, hdbg, hm | ⟨hm, hv, hnn⟩⟩ := hc
        · exact ld_glob (X := X.suite a ((a, oe3) :: (X.pn ++ pins))) S3 hg hm q hdbg
        · exact ld_blt (X := X.suite a ((a, oe3) :: (X.pn ++ pins))) S3 hg hm hv q hnn hdbg
      induction hk with
      | nil =>
        intro w
        refine wpAny_handleBy_nil ?_
        obtain ⟨k1, k2, k3, oe, vs, T, oT, ts', he, hz, hd, h1, hr⟩ := id fl3
        unfold PySem.passOn
        refine wpAny_bind (wpAny_field he hd h1 ?_)
        rw [if_neg (show ¬ ((Value.ref T == Value.none) = true) from by simp)]
        have fin : wpAny (model X.prog X.w) X.A (setFlight (.ref a) X.env.frame) (fun _ s4 => wpAny (model X.prog X.w) X.A (throw (.ref a) : Sem Flow) (SP X pins D) X.xe s4) X.xe { s' with heap := h3 } := by
          rw [hf]
          refine HandSPX.setFlight_upZ fl3 fun h4 hh4 up4 => wpAny_throw (tk _ _ ?_)
          exact ⟨a, B, sI, pins, σ', c.H, cls, d, rfl, J, nb, (up.trans up3).trans up4, .inr (.inr (by rw [hs]; exact hh4)), na, os, ag, w c σ' cls d rfl (.refl c) rh rs rx⟩
        first
          | exact wpAny_bind (wpAny_pure (wpAny_bind fin))
          | exact wpAny_bind fin
      | @plain x cn s b₀ suite np pos' hds2 l2 hc hsu r ih =>
        intro w
        unfold Mi.handle at w
        cases hsb : sub e.cls cn with
        | none => rw [hsb] at w; exact w.elim
        | some b =>
          rw [hsb] at w
          have hb1 := tab.exm _ _ _ hsb
          rw [← rx.1] at hb1
          have LM := PySem.W.exm_one (M := model X.prog X.w) (J3.kIn) LT hb1
          refine wpAny_handleBy_cons (codeAny_handlers_test ?_) (by intro q; cases q)
          refine test hc (LM.here ?_)
          cases b with
          | true =>
            refine codeAny_handlers_suite ?_
            refine HandSPX.lands_againZ fl3 fun h4 fl4 up4 => ?_
            have J4 : Inv X pins σ' c.H { s' with heap := h4 } := J.landed nb fl4.1 ((up.trans up3).trans up4) os ag
            obtain ⟨oe4, vs4, he4, hz4, hd4⟩ := fl4.there
            have S4 := J4.suite he4 hd4 na nL nF
            refine wpAny_mono ((hsu a oe4 cls d (X.pn ++ pins) hz4 ⟨_, hd4⟩).run [] _ _ c.H D S4 ⟨c, h, as, rfl, rh, rs, suite_plain w⟩) (fun f s6 hsp => ?_) (fun _ _ z => False.elim z)
            cases f with
            | next =>
              obtain ⟨σ6, H6, S6, q6⟩ := hsp
              exact ⟨_, _, S6.unsuite ok, q6⟩
            | brk =>
              obtain ⟨σ6, H6, S6, q6⟩ := hsp
              exact ⟨_, _, S6.unsuite ok, q6⟩
            | cont =>
              obtain ⟨σ6, H6, S6, q6⟩ := hsp
              exact ⟨_, _, S6.unsuite ok, q6⟩
            | ret u =>
              obtain ⟨v6, σ6, H6, S6, r6, q6⟩ := hsp
              exact ⟨_, _, _, S6.unsuite ok, r6, q6⟩
          | false =>
            show wpAny _ X.A (handleBy (.ref a) X.env hds2) _ _ _
            exact ih w
      | @named x n i cn s b₀ suite np pos' hds2 l2 hc hi hln hsu r ih =>
        intro w
        unfold Mi.handle at w
        cases hsb : sub e.cls cn with
        | none => rw [hsb] at w; exact w.elim
        | some b =>
          rw [hsb] at w
          have hb1 := tab.exm _ _ _ hsb
          obtain ⟨C, T1⟩ := tab.one _ _ _ hsb
          rw [← rx.1] at hb1
          have LM := PySem.W.exm_one (M := model X.prog X.w) (J3.kIn) LT hb1
          refine wpAny_handleBy_cons (codeAny_handlers_test ?_) (by intro q; cases q)
          refine test hc (LM.here ?_)
          cases b with
          | true =>
            refine codeAny_handlers_suite_as ?_
            refine HandSPX.lands_againZ fl3 fun h4 fl4 up4 => ?_
            have J4 : Inv X pins σ' c.H { s' with heap := h4 } := J.landed nb fl4.1 ((up.trans up3).trans up4) os ag
            obtain ⟨oe4, vs4, he4, hz4, hd4⟩ := fl4.there
            have S4 := J4.suite he4 hd4 na nL nF
            have hil : i < σ'.length := by
              rw [hlen]
              exact (List.getElem?_eq_some_iff.mp hi).1
            obtain ⟨dd, hod, rs2⟩ := rs.enter (a := a) hxa hil rx
            refine store_ok (X := X.suite a ((a, oe4) :: (X.pn ++ pins))) (v := .ref a) S4 hN hi (.inl hln) rfl (fun s5 S5 => ?_) (.inr hln)
            refine wpAny_mono ((hsu a C oe4 e.cls dd (X.pn ++ pins) T1 (by rw [← hod, ← rx.1]; exact hz4) ⟨_, hd4⟩).run [] s5 _ c.H { nx := fun σ' H' => D.nx (σ'.set i none) H', rt := D.rt, bk := fun σ' H' => D.bk (σ'.set i none) H', ct := fun σ' H' => D.ct (σ'.set i none) H' } S5
              ⟨c, h, _, rfl, rh, rs2, suite_named hxa w⟩) (fun f s6 hsp => ?_) (fun _ _ z => False.elim z)
            have end_ : ∀ {σ6 : St} {H6 : Hp} {Q : Shared → Prop}, Inv (X.suite a ((a, oe4) :: (X.pn ++ pins))) [] σ6 H6 s6 → (∀ s7, Inv X pins (σ6.set i none) H6 s7 → Q s7) →
                wpAny (model X.prog X.w) X.A (do bindName X.env n .none; unbindBehindTheSuite X.env n pos') (fun _ s7 => Q s7) X.xe s6 := fun {σ6 H6 Q} S6 hq => gone_ok (S6.unsuite ok) hN hi hln hq
            cases f with
            | next =>
              obtain ⟨σ6, H6, S6, q6⟩ := hsp
              exact end_ S6 fun s7 J7 => ⟨_, _, J7, q6⟩
            | brk =>
              obtain ⟨σ6, H6, S6, q6⟩ := hsp
              exact end_ S6 fun s7 J7 => ⟨_, _, J7, q6⟩
            | cont =>
              obtain ⟨σ6, H6, S6, q6⟩ := hsp
              exact end_ S6 fun s7 J7 => ⟨_, _, J7, q6⟩
            | ret u =>
              obtain ⟨v6, σ6, H6, S6, r6, q6⟩ := hsp
              exact end_ S6 fun s7 J7 => ⟨_, _, _, J7, r6, q6⟩
          | false =>
            show wpAny _ X.A (handleBy (.ref a) X.env hds2) _ _ _
            exact ih w
    exact go hh q
  · cases f with
    | next =>
      obtain ⟨σ', H', J', q⟩ := hsp
      exact wpAny_execs_nil ⟨σ', H', J'.ofTry ok, q⟩
    | brk =>
      obtain ⟨σ', H', J', q⟩ := hsp
      exact ⟨σ', H', J'.ofTry ok, q⟩
    | cont =>
      obtain ⟨σ', H', J', q⟩ := hsp
      exact ⟨σ', H', J'.ofTry ok, q⟩
    | ret u =>
      obtain ⟨v, σ', H', J', r, q⟩ := hsp
      exact ⟨v, σ', H', J'.ofTry ok, r, q⟩
end
end
end MiS

end

section
set_option maxHeartbeats 4000000
namespace MiS
open PySem PySem.Spec L2
open PyProof.Rows hiding St
open PySem.MiX (ExTxt Made)
open Mi (AV HC AH AX Res AS RS)

/-! ### defs -/
/-- a def does what its Mi term does -/
def spM (K : Fg) (cl : String → Value) (m : List AV → Mi.M AV) : Sp := fun vs H Q E => ∃ (c : Cn) (h : AH) (avs : List AV), c.H = H ∧ RepH K c h ∧ RepL K c avs vs ∧ Post K ⟨cl, none⟩ (fun cls d _ H => E cls d H) (RE K) c [] Q (m avs h)
theorem start_rep {K : Fg} {cl : String → Value} {c : Cn} {avs : List AV} {vs : List V} {N : List Str} (r : RepL K c avs vs) : RepS K ⟨cl, none⟩ c (Mi.start N.length avs) (L2.start N vs) := by
  have hl := r.length
  refine ⟨by simp [Mi.start, L2.start, hl], fun i x _ hx => ?_, trivial⟩
  unfold Mi.start at hx
  unfold L2.start
  by_cases hi : i < avs.length
  · rw [List.getElem?_append_left (by simpa using hi), List.getElem?_map] at hx
    cases z : avs[i]? with
    | none => rw [z] at hx; cases hx
    | some y =>
      rw [z] at hx
      cases hx
      obtain ⟨v, h1, h2⟩ := r.get z
      refine ⟨v, ?_, h2⟩
      rw [List.getElem?_append_left (by simp; omega), List.getElem?_map, h1]
      rfl
  · rw [List.getElem?_append_right (by simp; omega), List.getElem?_replicate] at hx
    split at hx <;> cases hx
section
variable {P : Program} {w : World} {K : Fg} {mg : Str → Option Value} {base : Heap} {cl : String → Value}
/-- a def of the text, as it stands behind the top -/
def rf : Value → Addr
  | .ref a => a
  | _ => 0
def DF (K : Fg) (mg : Str → Option Value) (x qual : Str) (st : Stmt) (ps : List Str) : Prop := ∃ f fd, Fun K x qual st f fd ∧ mg x = some (.ref f) ∧ PySem.W.keepIn K (.ref f) = true ∧ Binds K fd ps []
/-- .. that does what m does, k calls deep -/
def FOk (P : Program) (w : World) (K : Fg) (mg : Str → Option Value) (base : Heap) (cl : String → Value) (k : Nat) (x : Str) (m : List AV → Mi.M AV) : Prop := ∃ f fd ps, FnOk P w K mg base (L2N.CX P w) k f fd ps (spM K cl m) ∧ mg x = some (.ref f) ∧ PySem.W.keepIn K (.ref f) = true ∧ Binds K fd ps []
theorem FOk.mono {j k : Nat} {x : Str} {m : List AV → Mi.M AV} (h : FOk P w K mg base cl j x m) (hjk : j ≤ k) : FOk P w K mg base cl k x m := by
  obtain ⟨f, fd, ps, h1, h2⟩ := h
  exact ⟨f, fd, ps, h1.mono hjk, h2⟩
/-- what does nothing that is told -/
theorem fok_no {x qual : Str} {st : Stmt} {ps : List Str} {k : Nat} (F : DF K mg x qual st ps) : FOk P w K mg base cl k x (fun _ _ => .no) := by
  obtain ⟨f, fd, F, hm, hk, bi⟩ := F
  refine ⟨f, fd, ps, ⟨fun vs H Q E h => ?_, fun A outer s H args us vs Q E hr e0 hb r h => ?_⟩, hm, hk, bi⟩
  · obtain ⟨c, h, avs, e, rh, r, q⟩ := h
    exact q.elim
  · obtain ⟨c, h, avs, e, rh, r, q⟩ := h
    exact q.elim
theorem okM0 {x qual : Str} {st : Stmt} {N ps : List Str} {k : Nat} {mb : Mi.S} {f : Addr} {fd : FuncData} (F : Fun K x qual st f fd) (S : FnScope N ps (defScope st))
    (hb : ∀ (f : Addr) (cdv : Value) (A : Around) (outer : List Env) (s : Shared) (H : Hp) (E : XK), Room k (A.deeper (envOfC qual (defScope st) s.heap.objs.size f cdv)) →
      QSs ⟨cl, none⟩ (cxOf (L2N.CX P w) P w K mg base N qual (defScope st) f cdv A outer s H E) (fun cls d _ H => E cls d H) (defBody st) mb) : FnOk P w K mg base (L2N.CX P w) (k + 1) f fd ps (spM K cl (Mi.mDef ps.length N.length mb)) := by
  obtain ⟨oc, od, kV, doc, pm, an, cdv, ct, osl, rfl, lk, hcd⟩ := F.ex
  refine fn_of lk hcd S (fun vs H Q E h => ?_) (fun A outer s H vs Q E hr hsp => ⟨_, hb f cdv A outer s H E hr, ?_⟩)
  · obtain ⟨c, h, avs, e, rh, r, q⟩ := h
    unfold Mi.mDef at q
    split at q
    · rename_i hl
      rw [← r.length]
      exact hl
    · exact q.elim
  · obtain ⟨c, h, avs, e, rh, r, q⟩ := hsp
    refine ⟨c, h, Mi.start N.length avs, e, rh, start_rep r, ?_⟩
    unfold Mi.mDef at q
    split at q
    · cases z : mb (Mi.start N.length avs) h with
      | nx as h1 =>
        rw [z] at q
        exact fun d σ hx e1 rh1 rs1 => q d .non hx e1 rh1 (rep_non.mpr rfl)
      | rt v h1 => rw [z] at q; exact q
      | bk as h1 => rw [z] at q; exact q.elim
      | ct as h1 => rw [z] at q; exact q.elim
      | ex e as h1 =>
        rw [z] at q
        exact fun d σ cls od hx e1 rh1 rs1 rx => q d cls od hx e1 rh1 rx
      | no => rw [z] at q; exact q.elim
    · exact q.elim
theorem okM {x qual : Str} {st : Stmt} {N ps : List Str} {k : Nat} {mb : Mi.S} (F : DF K mg x qual st ps) (S : FnScope N ps (defScope st))
    (hb : ∀ (f : Addr) (cdv : Value) (A : Around) (outer : List Env) (s : Shared) (H : Hp) (E : XK), Room k (A.deeper (envOfC qual (defScope st) s.heap.objs.size f cdv)) →
      QSs ⟨cl, none⟩ (cxOf (L2N.CX P w) P w K mg base N qual (defScope st) f cdv A outer s H E) (fun cls d _ H => E cls d H) (defBody st) mb) : FOk P w K mg base cl (k + 1) x (Mi.mDef ps.length N.length mb) := by
  obtain ⟨f, fd, F, hm, hk, bi⟩ := F
  exact ⟨f, fd, ps, okM0 F S hb, hm, hk, bi⟩
end
section
variable {ct : Ct} {X : Cx} {W : WX} {e : Expr} {es : List Expr} {pos p : Pos} {ma : Mi.A} {m : List AV → Mi.M AV} {k : Nat} {x : Str}
theorem q_call (F : FOk X.prog X.w X.K X.mg X.base ct.cl k x m) (hr : Room k X.A) (tk : L2N.Takes X W) (hg : Gl X x) (ha : QA ct X W (e :: es) ma) (hdb : (x == ("__debug__" : Str)) = false := by decide)
    (he : starEach (e :: es) X.env = (false, eval e X.env) :: starEach es X.env := by rfl) (hpl : (backTo pos (starEach es X.env)).any (·.1) = false := by rfl) : QE ct X W (.Call (.Name x p) (e :: es) [] pos) (Mi.eCall m ma) := by
  obtain ⟨f, fd, ps, F, hm, hk, bi⟩ := F
  refine PE.imp (pe_callS F hr hg hm hk bi (fun σ => L2N.passAt tk σ) ha hdb he hpl) fun σ H Q ⟨c, h, as, e, rh, rs, q⟩ => ?_
  subst e
  refine tM_bind (P := fun c r => Post X.K ct W (RE X.K) c σ Q r) Post.pk rh rs q fun d h1 a v hx e1 rh1 rs1 r1 q1 => ?_
  refine ⟨d, h1, a, rfl, rh1, r1, ?_⟩
  cases z : m a h1 with
  | ok b h2 => rw [z] at q1; exact q1
  | ex y h2 => rw [z] at q1; exact q1
  | no => rw [z] at q1; exact q1
/-- f() -/
theorem q_call0 (F : FOk X.prog X.w X.K X.mg X.base ct.cl k x m) (hr : Room k X.A) (tk : L2N.Takes X W) (hg : Gl X x) (hdb : (x == ("__debug__" : Str)) = false := by decide) : QE ct X W (.Call (.Name x p) [] [] pos) (Mi.eCall m Mi.aNil) := by
  obtain ⟨f, fd, ps, F, hm, hk, bi⟩ := F
  refine ⟨fun pins s σ H Q I ⟨c, h, as, e, rh, rs, q⟩ => ?_⟩
  subst e
  refine wpAny_Call_Name_kw (ld_glob I hg hm ?_ hdb)
  refine PySem.W.callWith_K0 I.kIn hk ?_
  refine run_fnS (vs := []) F hr bi (L2N.passAt tk σ) I .nil ?_
  refine ⟨c, h, [], rfl, rh, repL_nil.mpr rfl, ?_⟩
  have q : Post X.K ct W (RE X.K) c σ Q (m [] h) := q
  cases z : m [] h with
  | ok b h2 => rw [z] at q; exact q
  | ex y h2 => rw [z] at q; exact q
  | no => rw [z] at q; exact q
end
end MiS

end

section
set_option maxHeartbeats 4000000
namespace MiS
open PySem PySem.Spec L2 PySem.W
open PyProof.Rows hiding St
open PySem.MiX (ExTxt Made InitFn)
open PySem.HandSPX (veTail)
open Mi (AV HC AH AX Res AS RS)

/-- an own exception class: its base's chain up -/
structure ClF (K : Fg) (mg : Str → Option Value) (cl : String → Value) (name : String) (C : Addr) (up : List Value) (flds : List Str) : Prop where
  look : ∃ q N bs sn sub ab col dd k0 k1 k2 k3 k5, K.lookup C = some (excClassObj (name : Str) q C N bs up true sn sub ab col dd k0 k1 k2 k3 k5 "ValueError.__new__")
  mg : mg (name : Str) = some (.ref C)
  cl : cl name = .ref C
  ga : findIn K (.ref C) "__getattribute__" = some (some (.builtin "BaseException.__getattribute__"))
  gg : findIn K (.ref C) "__getattr__" = some none
  ha : findIn K (.ref C) "__class__" = some (some (.builtin "object.__class__"))
  no : ∀ f ∈ flds, findIn K (.ref C) f = some none
def subT (l : List String) (c d : String) : Option Bool := if ((c == "DeedError" || l.contains c) && (d == "DeedError" || l.contains d)) = true then some (c == d || d == "DeedError") else none
section
variable {K : Fg} {mg : Str → Option Value} {cl : String → Value} {flds : List Str} {c d : String} {C D E : Addr} {up up2 : List Value}
theorem ClF.cls (h : ClF K mg cl c C up flds) : ∃ cd, clsIn K C = some cd ∧ cd.mro = .ref C :: up ∧ cd.hasDict = true ∧ cd.name = (c : Str) := by
  obtain ⟨q, N, bs, sn, sub, ab, col, dd, k0, k1, k2, k3, k5, e⟩ := h.look
  refine ⟨{ name := c, bases := bs, mro := .ref C :: up, ns := N, qualname := q, hasDict := true, slotNames := sn, subclasses := sub, abstract := ab, collection := col, hasDel := false }, ?_, rfl, rfl, rfl⟩
  unfold clsIn
  rw [e] <;> rfl
theorem ClF.mro (h : ClF K mg cl c C up flds) (b : Value) : mroIn K C b = some ((Value.ref C :: up).contains b) := by
  obtain ⟨cd, h1, h2, _⟩ := h.cls
  unfold mroIn
  rw [h1, Option.bind_some, h2, if_neg (show ¬ (List.isEmpty (Value.ref C :: up) = true) from Bool.false_ne_true)]
theorem ClF.inj (h : ClF K mg cl c C up flds) (g : ClF K mg cl d C up2 flds) : c = d := by
  obtain ⟨cd, h1, _, _, h2⟩ := h.cls
  obtain ⟨ce, g1, _, _, g2⟩ := g.cls
  rw [h1] at g1
  cases g1
  exact str_inj (h2.symm.trans g2)
theorem ClF.typ (h : ClF K mg cl c C up flds) : typeIn K (.ref C) = some (.type "type") := by
  obtain ⟨q, N, bs, sn, sub, ab, col, dd, k0, k1, k2, k3, k5, e⟩ := h.look
  show (K.lookup C).map (·.cls) = _
  rw [e] <;> rfl
theorem ClF.hdct (h : ClF K mg cl c C up flds) : hasDictIn K C = true := by
  obtain ⟨cd, h1, _, h3, _⟩ := h.cls
  unfold hasDictIn
  rw [h1]
  exact h3
/-- the two kinds of chains -/
inductive Up (D : Addr) : String → Addr → List Value → Prop
  | base : Up D "DeedError" D veTail
  | own {c : String} {C : Addr} (h : c ≠ "DeedError") : Up D c C (.ref D :: veTail)
theorem Up.has (u : Up D c C up) {T : String} (h : veTail.contains (.type T) = true) : (Value.ref C :: up).contains (.type T) = true := by
  cases u with
  | base => rw [List.contains_cons, h, Bool.or_true]
  | own _ => rw [List.contains_cons, List.contains_cons, h, Bool.or_true, Bool.or_true]
theorem Up.exc (u : Up D c C up) (h : ClF K mg cl c C up flds) : subIn K (.ref C) (.type "BaseException") = some true := by
  show mroIn K C _ = _
  rw [h.mro, u.has (by decide +kernel)]
theorem one_of (u : Up D c C up) (h : ClF K mg cl c C up flds) : XOne K (cl c) flds C where
  eq := h.cl
  xf := ⟨h.ga, h.gg, u.exc h, h.hdct⟩
  cl := by
    obtain ⟨cd, h1, _⟩ := h.cls
    rw [h1]
    rfl
  ha := h.ha
  hn := by first | rfl | kernel_rfl | decide +kernel
  ht := by first | rfl | kernel_rfl | decide +kernel
  hm := by rw [h.mro, u.has (by decide +kernel)]
  no := h.no
theorem sub_of (hD : ClF K mg cl "DeedError" D veTail flds) (u : Up D c C up) (h : ClF K mg cl c C up flds) (u2 : Up D d E up2) (g : ClF K mg cl d E up2 flds) : subIn K (.ref C) (.ref E) = some (c == d || d == "DeedError") := by
  show mroIn K C _ = _
  rw [h.mro, List.contains_cons]
  have e1 : (Value.ref E == Value.ref C) = (c == d) := by
    rw [Bool.eq_iff_iff, beq_iff_eq, beq_iff_eq]
    refine ⟨fun z => ?_, fun z => ?_⟩
    · cases z
      exact h.inj g
    · subst z
      rw [← h.cl, ← g.cl]
  have e2 : (Value.ref E == Value.ref D) = (d == "DeedError") := by
    rw [Bool.eq_iff_iff, beq_iff_eq, beq_iff_eq]
    refine ⟨fun z => ?_, fun z => ?_⟩
    · cases z
      exact g.inj hD
    · subst z
      rw [← g.cl, ← hD.cl]
  rw [e1]
  cases u with
  | base =>
    have e3 : veTail.contains (Value.ref E) = false := by rfl
    rw [e3]
    cases z : (d == "DeedError") with
    | false => rfl
    | true =>
      have : d = "DeedError" := by simpa using z
      subst this
      rfl
  | own hc =>
    rw [List.contains_cons, e2]
    have e3 : veTail.contains (Value.ref E) = false := by rfl
    rw [e3, Bool.or_false]
theorem xtab_mk {l : List String} (hD : ClF K mg cl "DeedError" D veTail flds) (hl : ∀ c ∈ l, c ≠ "DeedError" ∧ ∃ C, ClF K mg cl c C (.ref D :: veTail) flds) : XTab K ⟨cl, none⟩ (subT l) flds := by
  have look : ∀ c, (c == "DeedError" || l.contains c) = true → ∃ C up, Up D c C up ∧ ClF K mg cl c C up flds := fun c hc => by
    rw [Bool.or_eq_true] at hc
    rcases hc with hc | hc
    · have : c = "DeedError" := by simpa using hc
      subst this
      exact ⟨D, _, .base, hD⟩
    · obtain ⟨h1, C, h2⟩ := hl c (by simpa using hc)
      exact ⟨C, _, .own h1, h2⟩
  have both : ∀ c d b, subT l c d = some b → ∃ C up E up2, Up D c C up ∧ ClF K mg cl c C up flds ∧ Up D d E up2 ∧ ClF K mg cl d E up2 flds ∧ subIn K (.ref C) (.ref E) = some b := fun c d b hb => by
    unfold subT at hb
    split at hb
    · rename_i z
      rw [Bool.and_eq_true] at z
      obtain ⟨C, up, u, h⟩ := look c z.1
      obtain ⟨E, up2, u2, g⟩ := look d z.2
      exact ⟨C, up, E, up2, u, h, u2, g, (sub_of hD u h u2 g).trans hb⟩
    · cases hb
  refine ⟨fun c d b hb => ?_, fun c d b hb => ?_, fun c d b hb => ?_⟩
  · obtain ⟨C, up, E, up2, u, h, u2, g, e⟩ := both c d b hb
    exact ⟨C, one_of u h⟩
  · obtain ⟨C, up, E, up2, u, h, u2, g, e⟩ := both c d b hb
    show exmOne K (cl c) (cl d) = _
    rw [h.cl, g.cl]
    exact exm_ref (u2.exc g) g.hdct g.typ e
  · obtain ⟨C, up, E, up2, u, h, u2, g, e⟩ := both c d b hb
    show kitOne K (cl c) (cl d) = _
    rw [h.cl, g.cl]
    unfold kitOne
    by_cases z : (Value.ref C == Value.ref E) = true
    · rw [if_pos z]
      rw [beq_iff_eq] at z
      cases z
      have ec := h.inj g
      subst ec
      rw [← e]
      show _ = mroIn K C _
      rw [h.mro, List.contains_cons]
      simp
    · rw [if_neg z]
      unfold kitCls
      obtain ⟨cd, h1, _⟩ := g.cls
      have z2 : ((clsIn K E).isSome && typeIn K (.ref E) == some (.type "type")) = true := by rw [h1, g.typ] <;> rfl
      show (if ((clsIn K E).isSome && typeIn K (.ref E) == some (.type "type")) = true then subIn K (.ref C) (.ref E) else none) = some b
      rw [if_pos z2]
      exact e
end
/-- raise of such a class -/
structure XDef (P : Program) (K : Fg) (mg : Str → Option Value) (cl : String → Value) (name : String) (fs : List String) : Prop where
  ex : ∃ C D fI, ExTxt K P mg C D fI (fs.map PySem.Str.ofString) ∧ mg (name : Str) = some (.ref C) ∧ cl name = .ref C ∧ subIn K (.ref C) (.type "BaseException") = some true ∧ typeIn K (.ref C) = some (.type "type")
  db : ∀ y ∈ fs.map PySem.Str.ofString, (y == ("__debug__" : Str)) = false
section
variable {P : Program} {K : Fg} {mg : Str → Option Value} {cl : String → Value} {flds : List Str}
theorem xdef_mk {D C fI cda cc : Addr} {name : String} {fs : List String} {oc ccl cll : Value} {od cdd cld : Option Addr} {qual : Str} {params : Arguments} {txt : Str} {j : Nat} {p0 p1 p2 p3 p4 p5 : Pos} {asg : List Stmt} {scope : Scope} {dV kV doc pm : Value} {an : Option Addr} {ct : Value} {osl ccs csl : Array (Option Value)} {vs : Array Value} {file : Str} {tf : Tok}
    (hD : ClF K mg cl "DeedError" D veTail flds) (h : ClF K mg cl name C (.ref D :: veTail) flds) (sup : mg "super" = none) (opq : nsIn K cStatics "thirdparty.any" = some none) (dI : findIn K (.ref D) "__init__" = some (some (.builtin "ValueError.__init__")))
    (iC : findIn K (.ref C) "__init__" = some (some (.ref fI))) (sa : findIn K (.ref C) "__setattr__" = some (some (.builtin "object.__setattr__"))) (tI : typeIn K (.ref fI) = some (.type "function")) (kC : keepIn K (.ref C) = true)
    (l1 : K.lookup fI = some ⟨oc, od, .func (ksFn "__init__" qual params (.Expr (.Call (.Attribute (.Call (.Name "super" p0) [] [] p1) "__init__" p2) [.Constant (.str txt) j p3] [] p4) p5 :: asg) scope dV kV doc pm an (.ref cda) ct cc), osl⟩)
    (c1 : codeIn K (.ref cda) qual = true) (l2 : K.lookup cda = some ⟨ccl, cdd, .fields vs, ccs⟩) (l3 : K.lookup cc = some ⟨cll, cld, .cell (some (.ref C)), csl⟩)
    (noF : ∀ f ∈ fs.map PySem.Str.ofString, findIn K (.ref C) f = some none)
    (top : (P.main.scope.names.lookup ("super" : Str)).isSome = false) (nd : (("self" : Str) :: fs.map PySem.Str.ofString).Nodup) (few : (fs.map PySem.Str.ofString).length ≤ 100) (ha : PySem.MiX.Asgs asg (fs.map PySem.Str.ofString))
    (k1 : scope.kind = .function) (k2 : scope.isCoroutine = false) (k3 : scope.isGenerator = false) (k4 : scope.names.lookup ("super" : Str) = some .globalImplicit) (k5 : scope.names.lookup ("__class__" : Str) = some .free)
    (k6 : ∀ f ∈ ("self" : Str) :: fs.map PySem.Str.ofString, scope.names.lookup f = some .local) (k7 : ∀ y ∈ scope.names, y.2 ≠ .cell) (k8 : ∃ ar, (params.posonlyargs ++ params.args).head? = some ar ∧ ar.arg = ("self" : Str))
    (k9 : ∀ (s : Shared) (us : List Value), us.length = (("self" : Str) :: fs.map PySem.Str.ofString).length → BindsTo s (ksFn "__init__" qual params (.Expr (.Call (.Attribute (.Call (.Name "super" p0) [] [] p1) "__init__" p2) [.Constant (.str txt) j p3] [] p4) p5 :: asg) scope dV kV doc pm an (.ref cda) ct cc) ⟨us, []⟩ ((("self" : Str) :: fs.map PySem.Str.ofString).zip us))
    (hvs : vs[2]? = some (.str file tf)) (hfile : ((P.main.file : Str) == file) = true)
    (hev : ∀ env : Env, ∃ pl : Sem Bool, eval (.Call (.Attribute (.Call (.Name "super" p0) [] [] p1) "__init__" p2) [.Constant (.str txt) j p3] [] p4) env = (do
      let ov ← attributeBase (.Call (.Name "super" p0) [] [] p1) "__init__" env (eval (.Call (.Name "super" p0) [] [] p1) env)
      standAt p2.atName
      let (f, first) ← holding [ov] (getMethod ov "__init__" pl)
      callWith p4 f first (backTo p4 (starEach [.Constant (.str txt) j p3] env)) []))
    (db : ∀ y ∈ fs.map PySem.Str.ofString, (y == ("__debug__" : Str)) = false) (nD : name ≠ "DeedError") : XDef P K mg cl name fs := by
  refine ⟨⟨C, D, fI, ⟨?_, ?_, opq, sup, top, sa, noF, iC, tI, kC, nd, few, ⟨oc, od, qual, params, txt, j, p0, p1, p2, p3, p4, p5, asg, scope, dV, kV, doc, pm, an, cda, cc, ct, osl, l1, c1, ha, k1, k2, k3, k4, k5, k6, k7, k8, k9, ⟨ccl, cdd, vs, ccs, file, tf, l2, hvs, hfile⟩, ⟨cll, cld, csl, l3⟩, hev⟩⟩, h.mg, h.cl, (Up.own (D := D) nD).exc h, h.typ⟩, db⟩
  · obtain ⟨q, N, bs, sn, sub, ab, col, dd, k0, k1, k2, k3, k5, e⟩ := h.look
    exact ⟨_, q, N, bs, sn, sub, ab, col, dd, k0, k1, k2, k3, k5, e⟩
  · obtain ⟨q, N, bs, sn, sub, ab, col, dd, k0, k1, k2, k3, k5, e⟩ := hD.look
    have e2 : findIn K (.ref D) "__init__" = alongIn K "__init__" (.ref D :: veTail) := by
      unfold findIn
      dsimp only
      rw [e] <;> rfl
    rw [← e2]
    exact dI
end
section
variable {ct : Ct} {X : Cx} {W : WX} {e : Expr} {es : List Expr} {pos p pos2 : Pos} {ma : Mi.A}
theorem qs_raiseX {name f : String} {fs : List String} {k : Nat} (T : XDef X.prog X.K X.mg ct.cl name (f :: fs)) (hc : X.calm = true) (hr : Room k X.A) (tk : L2N.Takes X W) (ha : QA ct X W (e :: es) ma) (hg : Gl X (name : Str)) (hdb : ((name : Str) == ("__debug__" : Str)) = false := by decide)
    (he : starEach (e :: es) X.env = (false, eval e X.env) :: starEach es X.env := by rfl) (hpl : (backTo pos (starEach es X.env)).any (·.1) = false := by rfl) :
    QS ct X W (.Raise (some (.Call (.Name (name : Str) p) (e :: es) [] pos)) none pos2) (Mi.sRaise name (f :: fs) ma) := by
  obtain ⟨C, D, fI, T1, hm, hcl, eC, tC⟩ := T.ex
  exact qs_raise hc tk hcl (pmk_x T1 T.db hm eC tC (by have := hr.dp; omega) ha hg hdb he hpl)
end
end MiS

end

section
set_option maxHeartbeats 4000000
namespace MiS
open PySem PySem.Spec L2
open PyProof.Rows hiding St
open Mi (AV HC AH AX Res AS RS)
section
variable {ct : Ct} {X : Cx} {W : WX} {e : Expr} {pos : Pos} {me ma mb : Mi.E}
theorem nx_rev : Nx1 Mi.oRev := by
  intro x h e h' z
  unfold Mi.oRev at z
  split at z <;> cases z
theorem q_rev {k : Nat} {p1 p2 p3 : Pos} (he : QE ct X W e me) : QE ct X W (.Subscript e (.Slice none none (some (.UnaryOp .USub (.Constant (.int 1) k p1) p2)) p3) pos) (Mi.eOp1 Mi.oRev me) :=
  PE.imp (pe_revL he) fun σ H Q ⟨c, h, as, e, rh, rs, q⟩ => by
    subst e
    refine tM_bind (P := fun c r => Post X.K ct W (RE X.K) c σ Q r) Post.pk rh rs q fun d h1 a v hx e1 rh1 rs1 r1 q1 => ?_
    have q1 := q1.pv (nx_rev a h1)
    unfold Mi.oRev at q1
    split at q1
    · rename_i xs hs
      have key : ∃ p vs, v = .ref p ∧ SqL X.K d.H p vs ∧ RepL X.K d xs vs := by
        unfold Mi.oRev.seqL at hs
        split at hs
        · cases hs
          obtain ⟨p, vs, rfl, h2, h3⟩ := rep_scr.mp r1
          exact ⟨p, vs, rfl, h2.sq, h3⟩
        · obtain ⟨p, vs, rfl, h2, h3⟩ := lst_at rh1 r1 hs
          exact ⟨p, vs, rfl, .inl (.inl h2), h3⟩
      obtain ⟨p, vs, rfl, h2, h3⟩ := key
      exact ⟨p, vs, rfl, h2, fun p' hp => PV.lst q1 rh1 h3.reverse hp⟩
    · exact q1.elim
theorem repL_rg {K : Fg} {c : Cn} (a b : Int) : RepL K c (Mi.rgL a b) (rgV a b) := by
  unfold Mi.rgL rgV
  generalize List.range (b - a).toNat = l
  induction l with
  | nil => exact repL_nil.mpr rfl
  | cons x l ih => exact RepL.cons (rep_int.mpr rfl) ih
theorem rg_ok {a b : Int} (h : Mi.rgOk a b = true) : RgOk a b := by
  unfold Mi.rgOk at h
  simp only [Bool.and_eq_true, decide_eq_true_eq] at h
  obtain ⟨⟨g1, g2⟩, h5⟩ := h
  obtain ⟨h1, h2⟩ := big_of g1
  obtain ⟨h3, h4⟩ := big_of g2
  exact ⟨h1, h2, h3, h4, by rw [show (2 : Nat) ^ 24 = Mi.LINE from rfl]; exact h5⟩
theorem use_lrg {cell : Bool} {σ : St} {Q : VK} {d : Cn} {h2 : AH} {i j : Int} (rh : RepH X.K d h2)
    (q : PV X.K d Q (if Mi.rgOk i j = true then (if cell = true then .ok (.cel h2.length) (h2 ++ [.lst (Mi.rgL i j)]) else .ok (.lst (Mi.rgL i j)) h2) else .no)) : RgOk i j ∧ ∀ q, d.H q = none → Q (.ref q) (upd d.H q (.lst (rgV i j))) := by
  split at q
  · rename_i hk
    refine ⟨rg_ok hk, fun p hp => ?_⟩
    split at q
    · exact q.cell rh (repL_rg i j) hp
    · exact q.lst rh (repL_rg i j) hp
  · exact q.elim
theorem nx_lrg {cell : Bool} {i j : Int} {h2 : AH} : ∀ e h', (if Mi.rgOk i j = true then (if cell = true then Res.ok (AV.cel h2.length) (h2 ++ [HC.lst (Mi.rgL i j)]) else .ok (.lst (Mi.rgL i j)) h2) else .no) ≠ .ex e h' := by
  intro e h' z
  repeat (first | split at z | cases z)
theorem q_lrg1 (cell : Bool) {a : Expr} {p pr pos' : Pos} (hc : X.calm = true) (hg : Gl X "list") (hm : X.mg "list" = none) (hgr : Gl X "range") (hmr : X.mg "range" = none) (ha : QE ct X W a ma) (na : starEach [a] X.env = (false, eval a X.env) :: starEach [] X.env := by rfl)
    (nb : starEach [.Call (.Name "range" pr) [a] [] pos'] X.env = (false, eval (.Call (.Name "range" pr) [a] [] pos') X.env) :: starEach [] X.env := by rfl) :
    QE ct X W (.Call (.Name "list" p) [.Call (.Name "range" pr) [a] [] pos'] [] pos) (Mi.eLrg cell (Mi.eC (.int 0)) ma) :=
  PE.imp (pe_listRg hc hg hm (prg_1 hgr hmr ha na) nb) fun σ H Q ⟨c, h, as, e, rh, rs, q⟩ => by
    subst e
    refine tM_bind (P := fun c r => Post X.K ct W (RE X.K) c σ Q r) Post.pk rh rs q fun d h1 a v hx e1 rh1 rs1 r1 q1 => ?_
    cases a with
    | int j =>
      have r1 := rep_int.mp r1
      subst r1
      exact ⟨j, rfl, use_lrg (σ := σ) rh1 (q1.pv nx_lrg)⟩
    | _ => exact q1.elim
theorem q_lrg2 (cell : Bool) {a b : Expr} {p pr pos' : Pos} (hc : X.calm = true) (hg : Gl X "list") (hm : X.mg "list" = none) (hgr : Gl X "range") (hmr : X.mg "range" = none) (ha : QE ct X W a ma) (hb : QE ct X W b mb) (na : starEach [a, b] X.env = (false, eval a X.env) :: starEach [b] X.env := by rfl)
    (nb : starEach [b] X.env = (false, eval b X.env) :: starEach [] X.env := by rfl) (hp : (backTo pos' (starEach [b] X.env)).any (·.1) = false := by rfl)
    (nc : starEach [.Call (.Name "range" pr) [a, b] [] pos'] X.env = (false, eval (.Call (.Name "range" pr) [a, b] [] pos') X.env) :: starEach [] X.env := by rfl) :
    QE ct X W (.Call (.Name "list" p) [.Call (.Name "range" pr) [a, b] [] pos'] [] pos) (Mi.eLrg cell ma mb) :=
  PE.imp (pe_listRg hc hg hm (prg_2 hgr hmr ha hb na nb hp) nc) fun σ H Q ⟨c, h, as, e, rh, rs, q⟩ => by
    subst e
    refine tM_bind (P := fun c r => Post X.K ct W (RE X.K) c σ Q r) Post.pk rh rs q fun d h1 a v hx e1 rh1 rs1 r1 q1 => ?_
    refine tM_bind (P := fun c r => Post X.K ct W (RE X.K) c σ Q r) Post.pk rh1 rs1 q1 fun d2 h2 b w hx2 e2 rh2 rs2 r2 q2 => ?_
    cases a with
    | int i =>
      cases b with
      | int j =>
        have r1 := rep_int.mp r1
        subst r1
        have r2 := rep_int.mp r2
        subst r2
        exact ⟨i, j, rfl, rfl, use_lrg (σ := σ) rh2 (q2.pv nx_lrg)⟩
      | _ => exact q2.elim
    | _ => cases b <;> exact q2.elim
/-! ### {k: v, ..} -/
def RP (K : Fg) : Rl (List (AV × AV)) (List (V × V)) := fun c a b => RepL K c (a.map (·.1)) (b.map (·.1)) ∧ RepL K c (a.map (·.2)) (b.map (·.2))
abbrev QPs (ct : Ct) (X : Cx) (W : WX) (pos : Pos) (keys : List (Option Expr)) (values : List Expr) (es : List (Mi.E × Mi.E)) : Prop := PPs X pos keys values (es.map fun p => (tM X.K ct W (RE X.K) p.1, tM X.K ct W (RE X.K) p.2))
theorem qp_nil : QPs ct X W pos [] [] [] := pps_nil
theorem qp_cons {k v : Expr} {ks : List (Option Expr)} {vs : List Expr} {es : List (Mi.E × Mi.E)} (hk : QE ct X W k ma) (hv : QE ct X W v mb) (hr : QPs ct X W pos ks vs es) : QPs ct X W pos (some k :: ks) (v :: vs) ((ma, mb) :: es) := pps_cons hk hv hr
theorem use_pairs : ∀ (es : List (Mi.E × Mi.E)) {σ : St} {H : Hp} {Q : List (V × V) → Hp → Prop}, tM X.K ct W (RP X.K) (Mi.pairs es) σ H Q → tPairs (es.map fun p => (tM X.K ct W (RE X.K) p.1, tM X.K ct W (RE X.K) p.2)) σ H Q
  | [], σ, H, Q, ⟨c, h, as, e, rh, rs, q⟩ => by
    subst e
    exact q c [] rfl (.refl c) rh ⟨repL_nil.mpr rfl, repL_nil.mpr rfl⟩
  | (k, v) :: r, σ, H, Q, ⟨c, h, as, e, rh, rs, q⟩ => by
    subst e
    have q : Post X.K ct W (RP X.K) c σ Q ((k as h).bind fun x h1 => (v as h1).bind fun y h2 => (Mi.pairs r as h2).bind fun ps h3 => .ok ((x, y) :: ps) h3) := q
    refine tM_bind (P := fun c r => Post X.K ct W (RP X.K) c σ Q r) Post.pk rh rs q fun d h1 a x hx e1 rh1 rs1 r1 q1 => ?_
    refine tM_bind (P := fun c r => Post X.K ct W (RP X.K) c σ Q r) Post.pk rh1 rs1 q1 fun d2 h2 b y hx2 e2 rh2 rs2 r2 q2 => ?_
    refine use_pairs r ⟨d2, h2, as, rfl, rh2, rs2, ?_⟩
    cases z : Mi.pairs r as h2 with
    | ok ps h3 =>
      rw [z] at q2
      exact fun d3 bs hx3 e3 rh3 ⟨r3, r4⟩ => q2 d3 ((x, y) :: bs) hx3 e3 rh3 ⟨RepL.cons ((r1.ext e2).ext e3) r3, RepL.cons (r2.ext e3) r4⟩
    | ex e h3 =>
      rw [z] at q2
      exact q2
    | no =>
      rw [z] at q2
      exact q2.elim
theorem pairs_keys {K : Fg} {c : Cn} : ∀ (ps : List (AV × AV)) (bs : List (V × V)), RP K c ps bs → (ps.all fun p => p.1.key1) = true → ∃ kvs : List (Key × V), bs = kvs.map (fun kv => (kV kv.1, kv.2)) ∧ kvs.length = ps.length ∧
    ∀ (acc : List (AV × AV)) (ks : List (Key × V)), RepKV akey K c acc ks → RepKV akey K c (Mi.putAll acc ps) (mergeK ks kvs)
  | [], bs, ⟨r1, r2⟩, _ => by
    have hl := r1.length
    simp at hl
    have hl := List.length_eq_zero_iff.mp hl.symm
    subst hl
    exact ⟨[], rfl, rfl, fun acc ks h => h⟩
  | (x, y) :: ps, [], ⟨r1, r2⟩, _ => by
    have hl := r1.length
    simp at hl
  | (x, y) :: ps, (u, v) :: bs, ⟨r1, r2⟩, ha => by
    rw [List.all_cons, Bool.and_eq_true] at ha
    obtain ⟨u', l', e1, s1, t1⟩ := repL_cons.mp r1
    obtain ⟨v', l2, e2, s2, t2⟩ := repL_cons.mp r2
    cases e1
    cases e2
    obtain ⟨k, ek⟩ := akey_of (x := x) ha.1
    have hu := akey_v s1 ek
    obtain ⟨kvs, f1, f2, f3⟩ := pairs_keys ps bs ⟨t1, t2⟩ ha.2
    refine ⟨(k, v) :: kvs, by rw [List.map_cons, ← f1, ← hu], by simp [f2], fun acc ks h => ?_⟩
    exact f3 (Mi.put acc x y) (putK ks k v) (h.put akey_eqv ek s2)
theorem q_dsp {keys : List (Option Expr)} {values : List Expr} {es : List (Mi.E × Mi.E)} (h : QPs ct X W pos keys values es) (hall : keys.all (·.isSome) = true := by rfl) (hl : keys.length = values.length := by rfl) (h0 : keys ≠ [] := by simp)
    (h15 : keys.length ≤ 15 := by decide) : QE ct X W (.Dict keys values pos) (Mi.eDsp es) :=
  PE.imp (pe_disp h hall hl h0 h15) fun σ H Q ⟨c, h, as, e, rh, rs, q⟩ => by
    subst e
    intro p hp
    have rh1 : RepH X.K ⟨c.ρ ++ [p], c.X, upd c.H p (.dK [])⟩ (h ++ [.dic false []]) := rh.newcell hp ⟨[], upd_same, rfl⟩
    have ex1 : Ext c ⟨c.ρ ++ [p], c.X, upd c.H p (.dK [])⟩ := ext_cell hp
    have q : Post X.K ct W (RE X.K) c σ Q ((Mi.pairs es as (h ++ [.dic false []])).bind fun ps h1 => match h1[h.length]? with
      | some (.dic false []) => if (ps.all fun p => p.1.key1) = true ∧ ps.length ≤ 15 then .ok (.cel h.length) (h1.set h.length (.dic false (Mi.putAll [] ps))) else .no
      | _ => .no) := q
    refine use_pairs es ⟨⟨c.ρ ++ [p], c.X, upd c.H p (.dK [])⟩, h ++ [.dic false []], as, rfl, rh1, rs.ext ex1, ?_⟩
    cases z : Mi.pairs es as (h ++ [.dic false []]) with
    | ok ps h1 =>
      rw [z] at q
      intro d bs hx e1 rh2 rp
      dsimp only [Res.bind] at q
      split at q
      · rename_i hn
        split at q
        · rename_i hk
          have hρ : d.ρ[h.length]? = some p := by
            obtain ⟨m, em, _⟩ := e1.app
            have em : d.ρ = c.ρ ++ [p] ++ m := em
            rw [em, List.append_assoc, ← rh.len]
            simp
          obtain ⟨ks, k1, k2⟩ := rh2.cell _ _ _ hρ hn
          have k2 : ks = [] := k2
          subst k2
          obtain ⟨kvs, f1, f2, f3⟩ := pairs_keys ps bs rp hk.1
          refine ⟨k1, kvs, f1, by omega, ?_⟩
          have ew := ext_write (o := .dK (mergeK [] kvs)) rh2 (List.mem_of_getElem? hρ)
          exact q (d.at (upd d.H p (.dK (mergeK [] kvs)))) (.ref p) hx ((ex1.trans e1).trans ew) (rh2.write hρ ⟨_, upd_same, RepKV.ext ew (f3 [] [] rfl)⟩) (rep_cel.mpr ⟨p, rfl, hρ⟩)
        · exact q.elim
      · exact q.elim
    | ex e h1 =>
      rw [z] at q
      exact fun d cls od hx e1 rh2 rx => q d cls od hx (ex1.trans e1) rh2 rx
    | no =>
      rw [z] at q
      exact q.elim
/-! ord, is True, constants -/
theorem call_ordM : CallR X (.builtin "ord") (oMN X.K Mi.cOrd) := by
  intro pins s σ H xs us Q I rs ⟨c, h, as, e, rh, r, q⟩
  subst e
  unfold Mi.cOrd at q
  split at q
  · obtain ⟨v, rfl, r1⟩ := repL_one r
    rw [rep_str] at r1
    subst r1
    exact call_ord pins s σ _ _ us Q I rs ⟨_, rfl, rfl, q.here rh (by rw [rep_int]; rfl)⟩
  · exact q.elim
theorem nx_ord : NxN Mi.cOrd := by
  intro xs h e h' z
  unfold Mi.cOrd at z
  repeat (first | split at z | cases z)
theorem op_isBM : OpR X (compareOp .Is) (oM2 X.K Mi.oIsB) := by
  intro pins s σ H x y v u Q I rx ry ⟨c, h, ax, ay, e, rh, r1, r2, q⟩
  subst e
  unfold Mi.oIsB at q
  split at q
  · rename_i a b
    rw [rep_bl] at r1 r2
    subst r1 r2
    refine op_isBl pins s σ _ _ _ v u Q I rx ry ⟨a, b, rfl, rfl, ?_⟩
    have := q.here rh (v := .bl (a == b)) (rep_bl.mpr rfl)
    rwa [show (a == b) = decide (a = b) by cases a <;> cases b <;> rfl] at this
  · exact q.elim
theorem op_notBM : OpR X (compareOp .IsNot) (oM2 X.K Mi.oNotB) := by
  intro pins s σ H x y v u Q I rx ry ⟨c, h, ax, ay, e, rh, r1, r2, q⟩
  subst e
  unfold Mi.oNotB at q
  split at q
  · rename_i a b
    rw [rep_bl] at r1 r2
    subst r1 r2
    refine op_notBl pins s σ _ _ _ v u Q I rx ry ⟨a, b, rfl, rfl, ?_⟩
    have := q.here rh (v := .bl (!(a == b))) (rep_bl.mpr rfl)
    rwa [show (a == b) = decide (a = b) by cases a <;> cases b <;> rfl] at this
  · exact q.elim
theorem nx_isB : Nx2 Mi.oIsB := by
  intro x y h e h' z
  unfold Mi.oIsB at z
  repeat (first | split at z | cases z)
theorem nx_notB : Nx2 Mi.oNotB := by
  intro x y h e h' z
  unfold Mi.oNotB at z
  repeat (first | split at z | cases z)
theorem q_glob {x : Str} {v : Int} (h : ∃ t, X.mg x = some (.int v t)) (hg : Gl X x) (hd : (x == ("__debug__" : Str)) = false := by decide) : QE ct X W (.Name x pos) (Mi.eC (.int v)) := by
  obtain ⟨t, h⟩ := h
  exact q_c (pe_glob (v := .int v) hg h ⟨t, rfl⟩ hd) fun c => rep_int.mpr rfl
theorem q_globS {x : Str} {l : List Nat} (h : ∃ t, X.mg x = some (.str ⟨l.toArray⟩ t)) (hg : Gl X x) (hd : (x == ("__debug__" : Str)) = false := by decide) : QE ct X W (.Name x pos) (Mi.eC (.str l)) := by
  obtain ⟨t, h⟩ := h
  exact q_c (pe_glob (v := .str ⟨l.toArray⟩) hg h ⟨t, rfl⟩ hd) fun c => rep_str.mpr rfl
/-- a module's constant tuple -/
def KTv (K : Fg) (mg : Str → Option Value) (x : Str) (xs : List AV) : Prop := ∃ a vs, mg x = some (.ref a) ∧ KT K a vs ∧ ∀ c, RepL K c xs vs
theorem q_globT {x : Str} {xs : List AV} (h : KTv X.K X.mg x xs) (hg : Gl X x) (hd : (x == ("__debug__" : Str)) = false := by decide) : QE ct X W (.Name x pos) (Mi.eC (.scr true xs)) := by
  obtain ⟨a, vs, h1, h2, h3⟩ := h
  exact q_c (pe_glob (v := .ref a) hg h1 rfl hd) fun c => rep_scrT.mpr ⟨a, vs, rfl, h2, h3 c⟩
theorem ty1_pop : Ty1 "list" Mi.mPop := by
  intro x h
  unfold Mi.mPop
  split
  · rename_i n
    split
    · rename_i xs e
      left
      simp [Mi.tyA, e]
    · exact .inr rfl
  · exact .inr rfl
end
end MiS

end

section
set_option maxHeartbeats 4000000
/-! MiTok: where a token must be out: text.replace. -/
namespace MiS
open PySem PySem.Spec L2
open PyProof.Rows hiding St
open Mi (AV HC AH AX Res AS RS)
/-- behind e a token is out -/
def PEk (X : Cx) (e : Expr) (t : TE) : Prop :=
  ∀ (pins : List (Addr × Obj)) (s : Shared) (σ : St) (H : Hp) (Q : VK), Inv X pins σ H s → t σ H Q → wpAny (model X.prog X.w) X.A (eval e X.env) (fun v s' => 1 ≤ s'.toks ∧ EP X pins σ Q v s') X.xe s
theorem PEk.imp {X : Cx} {e : Expr} {t u : TE} (p : PEk X e t) (h : ∀ σ H Q, u σ H Q → t σ H Q) : PEk X e u := fun pins s σ H Q I q => p pins s σ H Q I (h σ H Q q)
theorem PET.imp {X : Cx} {e : Expr} {t u : TE} (p : PET X e t) (h : ∀ σ H Q, u σ H Q → t σ H Q) : PET X e u := fun pins s σ H Q h0 I q => p pins s σ H Q h0 I (h σ H Q q)
theorem PAT.imp {X : Cx} {e : List Expr} {t u : TA} (p : PAT X e t) (h : ∀ σ H Q, u σ H Q → t σ H Q) : PAT X e u := fun pos pins s σ H Q h0 I q => p pos pins s σ H Q h0 I (h σ H Q q)
theorem PST.imp {X : Cx} {e : Stmt} {t u : TS} (p : PST X e t) (h : ∀ D σ H, u D σ H → t D σ H) : PST X e u := fun pins s σ H D h0 I q => p pins s σ H D h0 I (h D σ H q)
theorem PSsT.imp {X : Cx} {e : List Stmt} {t u : TS} (p : PSsT X e t) (h : ∀ D σ H, u D σ H → t D σ H) : PSsT X e u := fun pins s σ H D h0 I q => p pins s σ H D h0 I (h D σ H q)
section
variable {X : Cx} {a b e : Expr} {ta tb te : TE} {pos : Pos}
/-- the rest keeps the token -/
theorem keep_tok {α : Type} {t : Sem α} {Q : α → Shared → Prop} {E : Value → Shared → Prop} {M : Model} {A : Around} {s : Shared} (h0 : 1 ≤ s.toks) (h : wpAny M A t Q E s) : wpAny M A t (fun v s' => 1 ≤ s'.toks ∧ Q v s') E s :=
  wpAny_mono (PySem.wpAny_toks h) (fun _ _ z => ⟨Nat.le_trans h0 z.1, z.2⟩) fun _ _ z => z.2
theorem pek_int {i j} : PEk X (.Constant (.int i) j pos) (tC (.int i)) := fun _ _ _ H _ I h => wpAny_Constant_int ⟨Nat.succ_le_succ (Nat.zero_le _), .int i, H, I.tok _, ⟨_, rfl⟩, h⟩
theorem pek_str {x j} : PEk X (.Constant (.str x) j pos) (tC (.str x)) := fun _ _ _ H _ I h => Calls.Constant_str ⟨Nat.succ_le_succ (Nat.zero_le _), .str x, H, I.tok _, ⟨_, rfl⟩, h⟩
theorem pek_opR {op : Operator} {r : R2} (ho : OpR X (binaryOp op) r) (ha : PE X a ta) (hb : PEk X b tb) : PEk X (.BinOp a op b pos) (tOp r ta tb) := fun pins s σ H Q I h =>
  wpAny_BinOp (thn (ha.run pins s σ H _ I h) fun v s1 ⟨x, H1, I1, r1, q1⟩ => thn (hb pins s1 σ H1 _ I1 q1) fun u s2 ⟨hk, y, H2, I2, r2, q2⟩ => keep_tok hk (ho pins s2 σ H2 x y v u Q I2 r1 r2 q2))
theorem pek_opL {op : Operator} {r : R2} (ho : OpR X (binaryOp op) r) (ha : PEk X a ta) (hb : PET X b tb) : PEk X (.BinOp a op b pos) (tOp r ta tb) := fun pins s σ H Q I h =>
  wpAny_BinOp (thn (ha pins s σ H _ I h) fun v s1 ⟨hk, x, H1, I1, r1, q1⟩ => thn (keep_tok hk (hb pins s1 σ H1 _ hk I1 q1)) fun u s2 ⟨hk2, y, H2, I2, r2, q2⟩ => keep_tok hk2 (ho pins s2 σ H2 x y v u Q I2 r1 r2 q2))
theorem pek_un {op : UnaryOp} {r : V → Hp → VK → Prop} (ho : UnR X (unaryOp op) r) (ha : PEk X a ta) : PEk X (.UnaryOp op a pos) (tUn r ta) := fun pins s σ H Q I h =>
  UnaryOp_ (thn (ha pins s σ H _ I h) fun v s1 ⟨hk, x, H1, I1, r1, q1⟩ => keep_tok hk (ho pins s1 σ H1 x v Q I1 r1 q1))
theorem pek_ix {r : R2} (hr : IxR X r) (ha : PE X a ta) (hb : PEk X b tb) (hs : PlainIx b) : PEk X (.Subscript a b pos) (tOp r ta tb) := fun pins s σ H Q I h =>
  Subscript_ (thn (ha.run pins s σ H _ I h) fun v s1 ⟨x, H1, I1, r1, q1⟩ => thn (hb pins s1 σ H1 _ I1 q1) fun u s2 ⟨hk, y, H2, I2, r2, q2⟩ => keep_tok hk (hr a b pins s2 σ H2 x y v u Q I2 r1 r2 q2 (hs _ _)))
theorem PEk.pe (h : PEk X e te) : PE X e te := ⟨fun pins s σ H Q I q => wpAny_mono (h pins s σ H Q I q) (fun _ _ z => z.2) fun _ _ z => z⟩
end
section
variable {ct : Ct} {X : Cx} {W : WX} {a b e : Expr} {es : List Expr} {pos : Pos} {me ma mb : Mi.E} {m : Mi.A}
abbrev QEk (ct : Ct) (X : Cx) (W : WX) (e : Expr) (m : Mi.E) : Prop := PEk X e (tM X.K ct W (RE X.K) m)
abbrev QET (ct : Ct) (X : Cx) (W : WX) (e : Expr) (m : Mi.E) : Prop := PET X e (tM X.K ct W (RE X.K) m)
abbrev QAT (ct : Ct) (X : Cx) (W : WX) (es : List Expr) (m : Mi.A) : Prop := PAT X es (tM X.K ct W (RA X.K) m)
abbrev QSsT (ct : Ct) (X : Cx) (W : WX) (ss : List Stmt) (m : Mi.S) : Prop := PSsT X ss (sM X.K ct W m)
theorem k_of {v : V} {av : AV} (p : PEk X e (tC v)) (r : ∀ c : Cn, Rep X.K c av v) : QEk ct X W e (Mi.eC av) :=
  PEk.imp p fun σ H Q ⟨c, h, as, e, rh, rs, q⟩ => by
    subst e
    exact q c v rfl (.refl c) rh (r c)
theorem k_int {i j} : QEk ct X W (.Constant (.int i) j pos) (Mi.eC (.int i)) := k_of pek_int fun c => rep_int.mpr rfl
theorem k_str {x : Str} {j} (l : List Nat) (hx : x = ⟨l.toArray⟩ := by decide +kernel) : QEk ct X W (.Constant (.str x) j pos) (Mi.eC (.str l)) := k_of pek_str fun c => by rw [rep_str, hx]
theorem k_opR {op : Operator} {f : AV → AV → Mi.M AV} (ho : OpR X (binaryOp op) (oM2 X.K f)) (hf : Nx2 f) (ha : QE ct X W a ma) (hb : QEk ct X W b mb) : QEk ct X W (.BinOp a op b pos) (Mi.eOp2 f ma mb) :=
  PEk.imp (pek_opR ho ha hb) fun σ H Q h => use_op2 hf h
theorem k_opL {op : Operator} {f : AV → AV → Mi.M AV} (ho : OpR X (binaryOp op) (oM2 X.K f)) (hf : Nx2 f) (ha : QEk ct X W a ma) (hb : QET ct X W b mb) : QEk ct X W (.BinOp a op b pos) (Mi.eOp2 f ma mb) :=
  PEk.imp (pek_opL ho ha hb) fun σ H Q h => use_op2 hf h
theorem k_un {op : UnaryOp} {f : AV → Mi.M AV} (ho : UnR X (unaryOp op) (oM1 X.K f)) (hf : Nx1 f) (ha : QEk ct X W a ma) : QEk ct X W (.UnaryOp op a pos) (Mi.eOp1 f ma) :=
  PEk.imp (pek_un ho ha) fun σ H Q h => use_op1 hf h
theorem k_ix (hu : X.A.units + 1 < cLine) (ha : QE ct X W a ma) (hb : QEk ct X W b mb) (hs : PlainIx b) : QEk ct X W (.Subscript a b pos) (Mi.eOp2 Mi.oIx ma mb) :=
  PEk.imp (pek_ix (ix_M hu) ha hb hs) fun σ H Q h => use_op2 nx_ix h
/-- T(e) -/
theorem k_callTy {f : List AV → Mi.M AV} {T : String} {x : Str} {p : Pos} (hc : CallR X (.type T) (oMN X.K f)) (hf : NxN f) (hg : Gl X x) (hm : X.mg x = none) (hv : bootBuiltins x = some (.type T)) (ha : QEk ct X W e me) (hn : x ≠ "__name__" := by decide) (hdb : (x == ("__debug__" : Str)) = false := by decide)
    (he : starEach [e] X.env = (false, eval e X.env) :: starEach [] X.env := by rfl) : QEk ct X W (.Call (.Name x p) [e] [] pos) (Mi.eCall f (Mi.aCons me Mi.aNil)) := by
  intro pins s σ H Q I ⟨c, h, as, e0, rh, rs, q⟩
  subst e0
  have hq : tM X.K ct W (RE X.K) me σ c.H (fun x H1 => oMN X.K f [x] H1 Q) := by
    have q : Post X.K ct W (RE X.K) c σ Q (((me as h).bind fun x h1 => (Mi.aNil as h1).bind fun xs h2 => .ok (x :: xs) h2).bind fun xs h1 => f xs h1) := q
    cases z : me as h with
    | ok x h1 =>
      rw [z] at q
      exact ⟨c, h, as, rfl, rh, rs, by rw [z]; exact fun d v hx e1 rh1 r1 => ⟨d, h1, [x], rfl, rh1, RepL.one r1, (Post.mono hx e1 q).pv (hf [x] h1)⟩⟩
    | ex x h1 =>
      rw [z] at q
      exact ⟨c, h, as, rfl, rh, rs, by rw [z]; exact q⟩
    | no => rw [z] at q; exact q.elim
  refine wpAny_Call_Name_kw (ld_blt I hg hm hv ?_ hn hdb)
  have one := ha pins s σ c.H _ I hq
  refine PyProof.Rows.callWith_type1 (args_cons (thn one fun v s1 ⟨hk, x, H1, I1, r1, q1⟩ => args_nil ?_) he) he
  exact keep_tok hk (hc pins s1 σ H1 [x] [v] Q I1 (.cons r1 .nil) q1)
/-! a token is out ahead -/
theorem qt_of (h : QE ct X W e me) : QET ct X W e me := CwR.PET.of h
theorem qt_op {op : Operator} {f : AV → AV → Mi.M AV} (ho : OpR X (binaryOp op) (oM2 X.K f)) (hf : Nx2 f) (ha : QET ct X W a ma) (hb : QET ct X W b mb) : QET ct X W (.BinOp a op b pos) (Mi.eOp2 f ma mb) :=
  PET.imp (CwR.pet_op ho ha hb) fun σ H Q h => use_op2 hf h
theorem replS_one {y : Nat} {z : List Nat} : ∀ l : List Nat, StrLaws.replL [y] z l = Mi.repC y z l
  | [] => StrLaws.replL_nil
  | c :: r => by
    unfold Mi.repC
    rw [List.flatMap_cons]
    by_cases h : c = y
    · subst h
      rw [StrLaws.replL_hit (by simp) (by simp), if_pos rfl]
      show z ++ StrLaws.replL [c] z r = _
      rw [replS_one r]
      rfl
    · rw [StrLaws.replL_miss (by simpa using h), if_neg h, replS_one r]
      rfl
theorem nx_repl {y : Nat} {z : List Nat} : Nx1 (Mi.mRepl y z) := by
  intro x h e h' q
  unfold Mi.mRepl at q
  repeat (first | split at q | cases q)
theorem use_repl {y : Nat} {z : List Nat} {sy sz : Str} (hy : sy = ⟨[y].toArray⟩) (hz : sz = ⟨z.toArray⟩) {σ : St} {H : Hp} {Q : VK} (h : tM X.K ct W (RE X.K) (Mi.eOp1 (Mi.mRepl y z) me) σ H Q) : CwR.tReplC (tM X.K ct W (RE X.K) me) sy sz σ H Q := by
  obtain ⟨c, h, as, e, rh, rs, q⟩ := h
  subst e
  refine tM_bind (P := fun c r => Post X.K ct W (RE X.K) c σ Q r) Post.pk rh rs q fun d h1 a v hx e1 rh1 rs1 r1 q1 => ?_
  replace q1 := q1.pv (nx_repl a h1)
  unfold Mi.mRepl at q1
  split at q1
  · rename_i s
    split at q1
    · rename_i hl
      have r1 := rep_str.mp r1
      have lx : (⟨s.toArray⟩ : Str).length = s.length := by simp [Str.length]
      have lz : sz.length = z.length := by rw [hz]; simp [Str.length]
      refine ⟨⟨s.toArray⟩, r1, by rw [lx, lz]; exact hl, ?_⟩
      have e : Txt.replace ⟨s.toArray⟩ sy sz = ⟨(Mi.repC y z s).toArray⟩ := by
        have := StrLaws.replace_list (x := ⟨s.toArray⟩) (y := sy) (z := sz) (by rw [hy]; simp [Str.length])
        rw [hy, hz, replS_one] at this
        rw [hy, hz]
        have h2 : ∀ (p q : Str), p.cps.toList = q.cps.toList → p = q := fun p q h => by
          cases p
          cases q
          congr
          exact Array.toList_inj.mp h
        exact h2 _ _ (by simpa using this)
      rw [e]
      exact q1.here rh1 (rep_str.mpr rfl)
    · exact q1.elim
  · exact q1.elim
theorem qt_repl (y : Nat) (z : List Nat) {sy sz : Str} {j k : Nat} {c0 c1 apos : Pos} (ho : QET ct X W e me) (hy : sy = ⟨[y].toArray⟩ := by decide +kernel) (hz : sz = ⟨z.toArray⟩ := by decide +kernel) (hyz : (sy == sz) = false := by decide +kernel)
    (hst : starEach [.Constant (.str sy) j c0, .Constant (.str sz) k c1] X.env = [(false, eval (.Constant (.str sy) j c0) X.env), (false, eval (.Constant (.str sz) k c1) X.env)] := by rfl)
    (hbase : attributeBase e "replace" X.env (eval e X.env) = eval e X.env := by rfl) (hline : (apos.endLine == pos.line) = true := by rfl) :
    QET ct X W (.Call (.Attribute e "replace" apos) [.Constant (.str sy) j c0, .Constant (.str sz) k c1] [] pos) (Mi.eOp1 (Mi.mRepl y z) me) :=
  PET.imp (CwR.pet_replT ho hyz hst hbase hline) fun σ H Q h => use_repl hy hz h
theorem qat_nil : QAT ct X W [] Mi.aNil := PAT.imp pat_nil fun σ H Q ⟨c, h, as, e, rh, rs, q⟩ => by
  subst e
  exact q c _ rfl (.refl c) rh (by rw [RA, repL_nil])
theorem qat_cons (ha : QET ct X W e me) (hr : QAT ct X W es m) (hs : starEach (e :: es) X.env = (false, eval e X.env) :: starEach es X.env := by rfl) : QAT ct X W (e :: es) (Mi.aCons me m) :=
  PAT.imp (pat_cons ha hr hs) fun σ H Q ⟨c, h, as, e, rh, rs, q⟩ => by
    subst e
    refine tM_bind (P := fun c r => Post X.K ct W (RA X.K) c σ Q r) Post.pk rh rs q fun d h1 a v hx e1 rh1 rs1 r1 q1 => ?_
    refine tM_bind (P := fun c r => Post X.K ct W (RA X.K) c σ Q r) Post.pk rh1 rs1 q1 fun d2 h2 b w hx2 e2 rh2 rs2 r2 q2 => ?_
    exact q2 d2 _ rfl (.refl d2) rh2 (RepL.cons (r1.ext e2) r2)
theorem qt_tup {x1} (h : QAT ct X W es m) : QET ct X W (.Tuple es x1 pos) (Mi.eTup m) := by
  intro pins s σ H Q h0 I ⟨c, hh, as, e, rh, rs, q⟩
  subst e
  have hq : tTup (tM X.K ct W (RA X.K) m) σ c.H Q := by
    refine tM_bind (P := fun c r => Post X.K ct W (RE X.K) c σ Q r) Post.pk rh rs q fun d h1 a v hx e1 rh1 rs1 r1 q1 => ?_
    split at q1
    · rename_i hl
      exact ⟨by rw [← RepL.length r1, line_eq]; exact hl, fun p hp => PV.tup (K := X.K) (h := h1) q1 rh1 r1 hp⟩
    · exact q1.elim
  refine wpAny_Tuple_spliced (thn (h pos pins s σ c.H _ h0 I hq) fun us s1 ⟨xs, H1, I1, r, z, q⟩ => ⟨by rw [← r.length]; exact z, ?_⟩)
  have hf : H1 s1.heap.objs.size = none := I1.hok.fresh (Nat.le_refl _)
  exact ⟨.ref s1.heap.objs.size, upd H1 s1.heap.objs.size (.tup xs), I1.laid (t' := s1.toks) (fun b u e => Heap.get?_push_of_some _ e) (Nat.le_refl _) ⟨z, us, r, ⟨_, Heap.get?_push_size _ rfl, rfl, _, rfl⟩⟩, rfl, q _ hf⟩
/-- o.m(e), a token behind o -/
theorem q_m1K {f : AV → AV → Mi.M AV} {T id : String} {name : Str} {o : Expr} {mo : Mi.E} {apos cpos : Pos} (pa : PlainAttrs T) (slot : Slot T name id) (hty : typeOf (.builtin id) = pure (.type "method_descriptor")) (hm : MtR X id (oMt1 X.K f)) (hf : Nx2 f) (ho : QEk ct X W o mo) (ha : QET ct X W e me)
    (hbase : attributeBase o name X.env (eval o X.env) = eval o X.env := by rfl)
    (hfew : ((backTo cpos (starEach (e :: []) X.env)).all (fun x => !x.1) && (backToKw cpos (keywordEach [] X.env)).all (fun x => x.1.isSome)
      && decide ((e :: ([] : List Expr)).length + ([] : List Keyword).length + (if ([] : List Keyword).isEmpty then 0 else 1) < 30)) = true := by rfl)
    (hline : (apos.endLine == cpos.line) = true := by rfl) (hs : starEach (e :: []) X.env = (false, eval e X.env) :: starEach [] X.env := by rfl) (hplain : (backTo cpos (starEach [] X.env)).any (·.1) = false := by rfl) :
    QE ct X W (.Call (.Attribute o name apos) [e] [] cpos) (Mi.eM1 T f mo me) := by
  refine ⟨fun pins s σ H Q I ⟨c, h, as, e0, rh, rs, q⟩ => ?_⟩
  subst e0
  have hq : tM X.K ct W (RE X.K) mo σ c.H (fun x H1 => tyV X.K T x H1 ∧ tM X.K ct W (RE X.K) me σ H1 fun y H2 => oMt1 X.K f x [y] H2 Q) := by
    refine tM_bind (P := fun c r => Post X.K ct W (RE X.K) c σ Q r) Post.pk rh rs q fun d h1 a v hx e1 rh1 rs1 r1 q1 => ?_
    split at q1
    · rename_i z
      refine ⟨ty_at rh1 r1 z, ?_⟩
      refine tM_bind (P := fun c r => Post X.K ct W (RE X.K) c σ Q r) Post.pk rh1 rs1 q1 fun d2 h2 b w hx2 e2 rh2 rs2 r2 q2 => ?_
      exact ⟨w, rfl, d2, h2, a, b, rfl, rh2, r1.ext e2, r2, q2.pv (hf a b h2)⟩
    · exact q1.elim
  refine wpAny_Call_method_late hbase hfew hline rfl (thn (ho pins s σ c.H _ I hq) fun v s1 ⟨hk, x, H1, I1, r1, ty, q1⟩ => ?_)
  obtain ⟨h1, h2⟩ := tyV_is I1 r1 ty
  refine ⟨T, id, pa, slot, hty, h1, h2, ?_⟩
  rw [hs]
  refine Calls.callWith_builtin (by show (false || (backTo cpos (starEach [] X.env)).any (·.1)) = false; rw [hplain] <;> rfl) (Calls.evalArgs_plain ?_)
  show wpAny _ _ (spliced ((false, eval e X.env) :: backTo cpos (starEach [] X.env))) _ _ s1
  exact Calls.spliced_cons (thn (ha pins s1 σ H1 _ hk I1 q1) fun u s2 ⟨y, H2, I2, r2, q2⟩ => Calls.spliced_nil (hm pins s2 σ H2 x [y] v [u] Q I2 r1 (.cons r2 .nil) q2))
/-! statements -/
variable {st : Stmt} {rest : List Stmt} {s t : Mi.S}
theorem qssT_of (h : QSs ct X W rest t) : QSsT ct X W rest t := PSsT.of h
theorem use_seq {D : Ends} {σ : St} {H : Hp} (h : sM X.K ct W (Mi.sSeq s t) D σ H) : tSeq (sM X.K ct W s) (sM X.K ct W t) D σ H := by
  obtain ⟨c, h, as, e, rh, rs, q⟩ := h
  subst e
  refine ⟨c, h, as, rfl, rh, rs, ?_⟩
  unfold Mi.sSeq at q
  cases z : s as h with
  | nx as1 h1 =>
    rw [z] at q
    exact fun d σ1 hx e1 rh1 rs1 => ⟨d, h1, as1, rfl, rh1, rs1, PostS.mono hx e1 q⟩
  | rt v h1 => rw [z] at q; exact q
  | bk as1 h1 => rw [z] at q; exact q
  | ct as1 h1 => rw [z] at q; exact q
  | ex e1 as1 h1 => rw [z] at q; exact q
  | no => rw [z] at q; exact q.elim
theorem qssT_cons (h1 : QS ct X W st s) (h2 : QSsT ct X W rest t) : QSsT ct X W (st :: rest) (Mi.sSeq s t) := PSsT.imp (psst_cons (PST.of h1) h2) fun D σ H h => use_seq h
theorem qssT_ret (he : QET ct X W e me) : QSsT ct X W [.Return (some e) pos] (Mi.sRet me) := by
  intro pins s σ H D h0 I ⟨c, h, as, e0, rh, rs, q⟩
  subst e0
  exact CwR.psst_one (CwR.pst_ret he) pins s σ c.H D h0 I (st_bind rh rs q fun d h1 a v hx e1 rh1 rs1 r1 q1 => q1 d v rfl (.refl d) rh1 r1)
/-- x = e, a token behind e; the rest -/
theorem qss_asgK {i : Nat} {x : Str} {pos' : Pos} (hN : X.N.Nodup) (hi : X.N[i]? = some x) (hx : Loc X.env.scope x) (he : QEk ct X W e me) (h2 : QSsT ct X W rest t) (hs : swapsWith e (some (.Name x pos')) pos.line X.env = pure false := by rfl) (hf : X.fn x = true ∨ X.env.scope.names.lookup x = some .local := by first | exact .inl rfl | exact .inr rfl | assumption) (hk : ct.ok i = true := by rfl) :
    QSs ct X W (.Assign [.Name x pos'] e pos :: rest) (Mi.sSeq (Mi.sAsg me (Mi.gNm i)) t) := by
  refine ⟨fun pins s σ H D I hq => ?_⟩
  obtain ⟨c, h, as, e0, rh, rs, q⟩ := use_seq hq
  subst e0
  refine wpAny_execs_cons (wpAny_Assign_Name (thn (he pins s σ c.H _ I (st_bind rh rs q fun d h1 a v hx e1 rh1 rs1 r1 q1 => q1 d _ rfl (.refl d) rh1 (rs1.set i hk r1))) fun v s1 ⟨hk1, y, H1, I1, r1, q1⟩ => ?_) hs)
  refine wpAny_mono (PySem.wpAny_toks (store_ok (Q := fun _ s2 => ∃ σ' H', Inv X pins σ' H' s2 ∧ sM X.K ct W t D σ' H') I1 hN hi hx r1 (fun s2 I2 => ⟨_, H1, I2, q1⟩) hf)) (fun _ s2 z => ?_) fun _ _ z => z.2
  obtain ⟨hk2, σ', H', I2, q2⟩ := z
  exact h2 pins s2 σ' H' D (Nat.le_trans hk1 hk2) I2 q2
end
end MiS

end

section
set_option maxHeartbeats 4000000
/-! MiHot: defs called within except suites. -/
namespace MiS
open PySem PySem.Spec L2
open PyProof.Rows hiding St
open Mi (AV HC AH AX Res AS RS)
section
variable {P : Program} {w : World} {K : Fg} {mg : Str → Option Value} {base : Heap} {cl : String → Value}
/-- no exception comes out -/
theorem takesN {X : Cx} : L2N.Takes X W0 := fun u s' ⟨_, _, _, _, _, _, _, _, _, _, _, _, _, _, _, _, w⟩ => w.elim
def FOkH (P : Program) (w : World) (K : Fg) (mg : Str → Option Value) (base : Heap) (cl : String → Value) (k : Nat) (x : Str) (m : List AV → Mi.M AV) : Prop := ∃ f fd ps, L2H.FnH P w K mg base (L2N.CX P w) k f fd ps (spM K cl m) ∧ mg x = some (.ref f) ∧ PySem.W.keepIn K (.ref f) = true ∧ Binds K fd ps []
theorem okMH {x qual : Str} {st : Stmt} {N ps : List Str} {k : Nat} {mb : Mi.S} (F : DF K mg x qual st ps) (S : FnScope N ps (defScope st))
    (hb : ∀ (f : Addr) (cdv : Value) (A : Around) (outer : List Env) (s : Shared) (H : Hp) (E : XK) (p : Addr × Obj), L2H.Hot1 A p → L2H.RoomH k (A.deeper (envOfC qual (defScope st) s.heap.objs.size f cdv)) →
      QSs ⟨cl, none⟩ (L2H.cxH (L2N.CX P w) P w K mg base N qual (defScope st) f cdv A outer s H E p) (fun cls d _ H => E cls d H) (defBody st) mb) : FOkH P w K mg base cl (k + 1) x (Mi.mDef ps.length N.length mb) := by
  obtain ⟨f, fd, F, hm, hk, bi⟩ := F
  refine ⟨f, fd, ps, ?_, hm, hk, bi⟩
  obtain ⟨oc, od, kV, doc, pm, an, cdv, ct, osl, rfl, lk, hcd⟩ := F.ex
  refine L2H.fn_ofH lk hcd S (fun vs H Q E h => ?_) (fun A outer s H vs Q E p hot hr hsp => ⟨_, hb f cdv A outer s H E p hot hr, ?_⟩)
  · obtain ⟨c, h, avs, e, rh, r, q⟩ := h
    unfold Mi.mDef at q
    split at q
    · rename_i hl
      rw [← r.length]
      exact hl
    · exact q.elim
  · obtain ⟨c, h, avs, e, rh, r, q⟩ := hsp
    refine ⟨c, h, Mi.start N.length avs, e, rh, start_rep r, ?_⟩
    unfold Mi.mDef at q
    split at q
    · cases z : mb (Mi.start N.length avs) h with
      | nx as h1 =>
        rw [z] at q
        exact fun d σ hx e1 rh1 rs1 => q d .non hx e1 rh1 (rep_non.mpr rfl)
      | rt v h1 => rw [z] at q; exact q
      | bk as h1 => rw [z] at q; exact q.elim
      | ct as h1 => rw [z] at q; exact q.elim
      | ex e as h1 =>
        rw [z] at q
        exact fun d σ cls od hx e1 rh1 rs1 rx => q d cls od hx e1 rh1 rx
      | no => rw [z] at q; exact q.elim
    · exact q.elim
end
theorem roomM {k : Nat} {A : Around} {v : Option Value} (r : Room k A) : L2H.RoomH k (A.mark v) := ⟨r.dp, r.un⟩
theorem huM {k : Nat} {A : Around} {v : Option Value} (r : Room k A) : (A.mark v).units + 1 < cLine := by
  have := r.un
  show A.units + 1 < cLine
  omega
theorem hot_of {X : Cx} {a : Addr} {oe : Obj} {cls : Value} {d : Option Addr} {pn : List (Addr × Obj)} (hz : L2N.Zn cls d oe) (hf : ∃ vs, oe.data = .fields vs) : L2H.HotC (X.suite a ((a, oe) :: pn)) := by
  obtain ⟨vs, hv⟩ := hf
  exact ⟨(a, oe), ⟨rfl, vs, hv, hz.2.2 vs hv⟩, List.mem_cons_self⟩
section
variable {ct : Ct} {X : Cx} {W : WX} {e : Expr} {es : List Expr} {pos p : Pos} {ma : Mi.A} {m : List AV → Mi.M AV} {k : Nat} {x : Str}
theorem qH_call (F : FOkH X.prog X.w X.K X.mg X.base ct.cl k x m) (hr : L2H.RoomH k X.A) (hot : L2H.HotC X) (tk : L2N.Takes X W) (hg : Gl X x) (ha : QA ct X W (e :: es) ma) (hdb : (x == ("__debug__" : Str)) = false := by decide)
    (he : starEach (e :: es) X.env = (false, eval e X.env) :: starEach es X.env := by rfl) (hpl : (backTo pos (starEach es X.env)).any (·.1) = false := by rfl) : QE ct X W (.Call (.Name x p) (e :: es) [] pos) (Mi.eCall m ma) := by
  obtain ⟨f, fd, ps, F, hm, hk, bi⟩ := F
  refine PE.imp (L2H.pe_callH F hr hot hg hm hk bi (fun σ => L2N.passAt tk σ) ha hdb he hpl) fun σ H Q ⟨c, h, as, e, rh, rs, q⟩ => ?_
  subst e
  refine tM_bind (P := fun c r => Post X.K ct W (RE X.K) c σ Q r) Post.pk rh rs q fun d h1 a v hx e1 rh1 rs1 r1 q1 => ?_
  refine ⟨d, h1, a, rfl, rh1, r1, ?_⟩
  cases z : m a h1 with
  | ok b h2 => rw [z] at q1; exact q1
  | ex y h2 => rw [z] at q1; exact q1
  | no => rw [z] at q1; exact q1
end
end MiS

end

section
set_option maxHeartbeats 4000000
namespace MiS
open PySem PySem.Spec L2 PySem.W
open PyProof.Rows hiding St
open PySem.HandSPX (veTail)
open Mi (AV HC AH AX Res AS RS)

/-! ### from the written part -/
def clOf (l : List (String × Addr)) (s : String) : Value := match l.lookup s with
  | some a => .ref a
  | none => .none
abbrev adr {K : Fg} {n : Str} {C : Addr} (_ : nsIn K mainGlobals n = some (some (.ref C))) : Addr := C
theorem at_mk {K : Fg} {h : Heap} {n : Str} {C : Addr} {goal : Prop} (_ : K.In h) (a : nsIn K mainGlobals n = some (some (.ref C))) (k : nsIn K mainGlobals n = some (some (.ref C)) → goal) : goal := k a
section
variable {K : Fg} {mg : Str → Option Value} {h : Heap} {cl : String → Value} {flds : List Str}
theorem nof_nil {C : Addr} : ∀ f ∈ ([] : List Str), findIn K (.ref C) f = some none := fun f hf => by cases hf
theorem nof_cons {C : Addr} {f : Str} {l : List Str} (a : findIn K (.ref C) f = some none) (t : ∀ y ∈ l, findIn K (.ref C) y = some none) : ∀ y ∈ f :: l, findIn K (.ref C) y = some none := fun y hy => by
  rcases List.mem_cons.mp hy with e | e
  · rw [e]; exact a
  · exact t y e
theorem clf_mk {name : String} {C : Addr} {up : List Value} {q : Str} {N : Addr} {bs : List Value} {sn : List Str} {sub : List Value} {ab : Bool} {col : Option Bool} {dd : Option Addr} {k0 k1 k2 k3 k5 : Option Value}
    (X : K.In h) (G : h.Ns mainGlobals mg) (a : nsIn K mainGlobals (name : Str) = some (some (.ref C))) (hc : cl name = .ref C)
    (l : K.lookup C = some (excClassObj (name : Str) q C N bs up true sn sub ab col dd k0 k1 k2 k3 k5 "ValueError.__new__"))
    (ga : findIn K (.ref C) "__getattribute__" = some (some (.builtin "BaseException.__getattribute__"))) (gg : findIn K (.ref C) "__getattr__" = some none) (ha : findIn K (.ref C) "__class__" = some (some (.builtin "object.__class__")))
    (no : ∀ f ∈ flds, findIn K (.ref C) f = some none) : ClF K mg cl name C up flds :=
  ⟨⟨q, N, bs, sn, sub, ab, col, dd, k0, k1, k2, k3, k5, l⟩, mg_of X G a, hc, ga, gg, ha, no⟩
theorem df_mk {x : Str} {st : Stmt} {ps : List Str} {f : Addr} {oc : Value} {od an : Option Addr} {osl : Array (Option Value)} {kV doc pm cdv ct : Value} (X : K.In h) (G : h.Ns mainGlobals mg) (a : nsIn K mainGlobals x = some (some (.ref f)))
    (l : K.lookup f = some ⟨oc, od, .func (fnOf x x (defArgs st) (defBody st) (defScope st) .none kV doc pm an cdv ct), osl⟩) (c : codeIn K cdv x = true) (k : keepIn K (.ref f) = true)
    (b : ∀ (kV doc pm : Value) (an : Option Addr) (cdv ct : Value) (us : List Value), us.length = ps.length → bindArgs (fnOf x x (defArgs st) (defBody st) (defScope st) .none kV doc pm an cdv ct) ⟨us, []⟩ = pure (ps.zip us)) : DF K mg x x st ps := by
  have F := fun_mk (st := st) (x := x) (qual := x) l c k
  exact ⟨f, _, F, mg_of X G a, k, F.binds b⟩
theorem cls_nil {up : List Value} : ∀ c ∈ ([] : List String), c ≠ "DeedError" ∧ ∃ C, ClF K mg cl c C up flds := fun c hc => by cases hc
theorem cls_cons {up : List Value} {c : String} {C : Addr} {l : List String} (hn : c ≠ "DeedError") (hC : ClF K mg cl c C up flds) (t : ∀ c ∈ l, c ≠ "DeedError" ∧ ∃ C, ClF K mg cl c C up flds) : ∀ d ∈ c :: l, d ≠ "DeedError" ∧ ∃ C, ClF K mg cl d C up flds := fun d hd => by
  rcases List.mem_cons.mp hd with e | e
  · rw [e]; exact ⟨hn, C, hC⟩
  · exact t d e
end
/-! ### constants -/
theorem gs_mk {K : Fg} {mg : Str → Option Value} {h : Heap} {x s : Str} {t : Tok} {l : List Nat} (X : K.In h) (G : h.Ns mainGlobals mg) (a : nsIn K mainGlobals x = some (some (.str s t))) (e : s = ⟨l.toArray⟩) : ∃ t, mg x = some (.str ⟨l.toArray⟩ t) := ⟨t, by rw [← e]; exact mg_of X G a⟩
theorem kt_mk {K : Fg} {mg : Str → Option Value} {h : Heap} {x : Str} {a : Addr} {o : Obj} {its : Array Value} {n : Nat} {vs : List V} {xs : List AV} (X : K.In h) (G : h.Ns mainGlobals mg) (e : nsIn K mainGlobals x = some (some (.ref a))) (l : K.lookup a = some o)
    (hc : o.cls = .type "tuple") (hd : o.data = .seq its n) (hl : its.size ≤ sizeLine) (hv : Vals vs its.toList) (hr : ∀ c, RepL K c xs vs) : KTv K mg x xs := ⟨a, vs, mg_of X G e, ⟨o, its, n, l, hc, hd, hl, hv⟩, hr⟩
theorem rl_nil {K : Fg} : ∀ c, RepL K c [] [] := fun c => repL_nil.mpr rfl
theorem rl_int {K : Fg} {i : Int} {xs : List AV} {vs : List V} (h : ∀ c, RepL K c xs vs) : ∀ c, RepL K c (.int i :: xs) (.int i :: vs) := fun c => RepL.cons (rep_int.mpr rfl) (h c)
theorem rl_str {K : Fg} {l : List Nat} {s : Str} {xs : List AV} {vs : List V} (e : s = ⟨l.toArray⟩) (h : ∀ c, RepL K c xs vs) : ∀ c, RepL K c (.str l :: xs) (.str s :: vs) := fun c => RepL.cons (rep_str.mpr (by rw [e])) (h c)
/-! ### the end -/
/-- what the law promises of its script -/
def spLaw (n : Nat) (K : Fg) : Sp := fun vs H Q _ => ∃ (a : Addr) (ns : List Int), vs = [.ref a] ∧ ns.length ≤ n ∧ Only H ∧ SqL K H a (ns.map V.int) ∧ ∀ H', Q (.bl true) H'
theorem spLaw_imp {n : Nat} {K : Fg} {cl : String → Value} {m : List AV → Mi.M AV} (hm : ∀ ns : List Int, ns.length ≤ n → ∃ h', m [.scr false (ns.map .int)] [] = .ok (.bl true) h') (vs : List V) (H : Hp) (Q : VK) (E : XK) (h : spLaw n K vs H Q E) : spM K cl m vs H Q E := by
  obtain ⟨a, ns, rfl, hl, hO, hS, q⟩ := h
  have rd : RdF K ⟨[], ⟨[], none⟩, H⟩ a (ns.map V.int) := by
    rcases hS with (hS | hS) | hS
    · rcases hO a with z | ⟨ob, xs, z⟩
      · rw [hS] at z; cases z
      · rw [hS] at z; cases z
    · exact .inl hS
    · exact .inr hS
  refine ⟨⟨[], ⟨[], none⟩, H⟩, [], [.scr false (ns.map .int)], rfl, ⟨rfl, by simp, fun n a o hn => by simp at hn, fun a ha => by cases ha⟩, RepL.one (rep_scr.mpr ⟨a, _, rfl, rd, RepL.ints ns⟩), ?_⟩
  obtain ⟨h', e⟩ := hm ns hl
  rw [e]
  intro d v hx e1 rh r
  rw [RE, rep_bl] at r
  rw [r]
  exact q _
theorem spLaw_here {n : Nat} {K : Fg} (H : Hp) (a : Addr) (ns : List Int) (hl : ns.length ≤ n) (hO : Only H) (hS : SqL K H a (ns.map V.int)) : spLaw n K [.ref a] H (fun v _ => v = .bl true) fun _ _ _ => False := ⟨a, ns, rfl, hl, hO, hS, fun _ => rfl⟩
theorem cx_none {P : Program} {w : World} (H : Hp) (s : Shared) (e : Value) (s' : Shared) (h : L2N.CX P w [] H s (fun _ _ _ => False) e s') : False := by
  obtain ⟨_, _, _, _, _, _, _, _, _, _, _, _, z⟩ := h
  exact z
theorem law_fd {P : Program} {w : World} {K : Fg} {mg : Str → Option Value} {cl : String → Value} {k n : Nat} {fa : Addr} {x : Str} {st : Stmt} {m : List AV → Mi.M AV} (hmg : mg "law" = some (.ref fa)) (d : DF K mg "law" "law" st [x])
    (hb : ∀ (kV doc pm : Value) (an : Option Addr) (cdv ct : Value) (s : Shared) (u : Value), BindsTo s (fnOf "law" "law" (defArgs st) (defBody st) (defScope st) .none kV doc pm an cdv ct) ⟨[u], []⟩ [(x, u)])
    (ok : ∀ (base : Heap) (f : Addr) (fd : FuncData), Fun K "law" "law" st f fd → FnOk P w K mg base (L2N.CX P w) k f fd [x] (spM K cl m)) (hm : ∀ ns : List Int, ns.length ≤ n → ∃ h', m [.scr false (ns.map .int)] [] = .ok (.bl true) h') :
    ∃ fd : FuncData, (∀ (s : Shared) (u : Value), BindsTo s fd ⟨[u], []⟩ [(x, u)]) ∧ ∀ base : Heap, K.In base → base.Ns mainGlobals mg → FnOk P w K mg base (L2N.CX P w) k fa fd [x] (spLaw n K) := by
  obtain ⟨f, fd, F, hf, hk, bi⟩ := d
  cases hmg.symm.trans hf
  refine ⟨fd, ?_, fun base _ _ => (ok base _ fd F).imp (spLaw_imp hm)⟩
  obtain ⟨oc, od, kV, doc, pm, an, cdv, ct, osl, rfl, lk, hcd⟩ := F.ex
  exact fun s u => hb kV doc pm an cdv ct s u
end MiS

end

section
set_option maxHeartbeats 4000000
/-! MiSimp: the combinators by simp. -/
namespace Mi
theorem inBig_iff (j : Int) : inBig j = true ↔ (-4611686018427387904 < j ∧ j < 4611686018427387904) := by
  unfold inBig
  rw [decide_eq_true_iff]
  by_cases h : j = 0
  · subst h
    decide
  · rw [Nat.log2_lt (by omega)]
    rw [show (2 : Nat) ^ 62 = 4611686018427387904 by decide]
    omega
theorem inBig_of {j : Int} (h : -1000000000 ≤ j) (h2 : j ≤ 1000000000) : inBig j = true := by
  rw [inBig_iff]
  omega
section
variable (σ : AS) (h : AH)
@[simp] theorem z_eVar (i : Nat) : eVar i σ h = match σ[i]? with | some (some v) => .ok v h | _ => .no := rfl
@[simp] theorem z_eC (v : AV) : eC v σ h = .ok v h := rfl
@[simp] theorem z_eOp1 (f : AV → M AV) (a : E) : eOp1 f a σ h = (a σ h).bind fun x h1 => f x h1 := rfl
@[simp] theorem z_eOp2 (f : AV → AV → M AV) (a b : E) : eOp2 f a b σ h = (a σ h).bind fun x h1 => (b σ h1).bind fun y h2 => f x y h2 := rfl
@[simp] theorem z_aNil : aNil σ h = .ok [] h := rfl
@[simp] theorem z_aCons (a : E) (r : A) : aCons a r σ h = (a σ h).bind fun x h1 => (r σ h1).bind fun xs h2 => .ok (x :: xs) h2 := rfl
@[simp] theorem z_eCall (f : List AV → M AV) (a : A) : eCall f a σ h = (a σ h).bind fun xs h1 => f xs h1 := rfl
@[simp] theorem z_eM1 (T : String) (f : AV → AV → M AV) (o a : E) : eM1 T f o a σ h = (o σ h).bind fun x h1 => if tyA T h1 x = true then (a σ h1).bind fun y h2 => f x y h2 else .no := rfl
@[simp] theorem z_eTup (a : A) : eTup a σ h = (a σ h).bind fun xs h1 => if xs.length ≤ LINE then .ok (.tup xs) h1 else .no := rfl
@[simp] theorem z_eLst (a : A) : eLst a σ h = (a σ h).bind fun xs h1 => if xs.length ≤ LINE then .ok (.lst xs) h1 else .no := rfl
@[simp] theorem z_eLstC (a : A) : eLstC a σ h = (a σ h).bind fun xs h1 => if xs.length ≤ LINE then .ok (.cel h1.length) (h1 ++ [.lst xs]) else .no := rfl
@[simp] theorem z_eDic0 (t : Bool) : eDic0 t σ h = .ok (.cel h.length) (h ++ [.dic t []]) := rfl
@[simp] theorem z_oNo : oNo σ h = .ok none h := rfl
@[simp] theorem z_oAt (a : E) : oAt a σ h = (a σ h).bind fun x h1 => match x with | .int i => .ok (some i) h1 | _ => .no := rfl
@[simp] theorem z_eSl (a : E) (lo hi : O) : eSl a lo hi σ h = (a σ h).bind fun x h1 => (lo σ h1).bind fun l h2 => (hi σ h2).bind fun u h3 => oSl x l u h3 := rfl
@[simp] theorem z_tB (a : E) : tB a σ h = (a σ h).bind fun x h1 => match x with | .bl b => .ok b h1 | _ => .no := rfl
@[simp] theorem z_tAnd (t u : T) : tAnd t u σ h = (t σ h).bind fun c h1 => if c = true then u σ h1 else .ok false h1 := rfl
@[simp] theorem z_tOr (t u : T) : tOr t u σ h = (t σ h).bind fun c h1 => if c = true then .ok true h1 else u σ h1 := rfl
@[simp] theorem z_tNot (t : T) : tNot t σ h = (t σ h).bind fun c h1 => .ok (!c) h1 := rfl
@[simp] theorem z_tYes : tYes σ h = .ok true h := rfl
@[simp] theorem z_eAnd (a b : E) : eAnd a b σ h = (a σ h).bind fun x h1 => match x with | .bl true => b σ h1 | .bl false => .ok (.bl false) h1 | _ => .no := rfl
@[simp] theorem z_eOr (a b : E) : eOr a b σ h = (a σ h).bind fun x h1 => match x with | .bl true => .ok (.bl true) h1 | .bl false => b σ h1 | _ => .no := rfl
@[simp] theorem z_eNot (a : E) : eNot a σ h = (a σ h).bind fun x h1 => match x with | .bl b => .ok (.bl (!b)) h1 | _ => .no := rfl
@[simp] theorem z_eIf (t : T) (a b : E) : eIf t a b σ h = (t σ h).bind fun c h1 => if c = true then a σ h1 else b σ h1 := rfl
@[simp] theorem z_eChain (f g : AV → AV → M AV) (a b c : E) : eChain f g a b c σ h = (a σ h).bind fun x h1 => (b σ h1).bind fun y h2 => (f x y h2).bind fun z h3 => match z with | .bl true => (c σ h3).bind fun w h4 => g y w h4 | .bl false => .ok (.bl false) h3 | _ => .no := rfl
@[simp] theorem z_iSeq (a : E) : iSeq a σ h = (a σ h).bind fun v h1 => match v with
  | .tup xs => .ok (.seq xs) h1
  | .lst xs => .ok (.seq xs) h1
  | .scr _ xs => .ok (.seq xs) h1
  | .str s => .ok (.seq (s.map fun c => .str [c])) h1
  | .cel n => (match h1[n]? with
    | some (.lst _) => .ok (.live n) h1
    | _ => .no)
  | _ => .no := rfl
@[simp] theorem z_iRng1 (a : E) : iRng1 a σ h = (a σ h).bind fun v h1 => match v with | .int j => if inBig j = true then .ok (.seq (rng 0 j.toNat)) h1 else .no | _ => .no := rfl
@[simp] theorem z_iRng2 (a b : E) : iRng2 a b σ h = (a σ h).bind fun x h1 => (b σ h1).bind fun y h2 => match x, y with
  | .int i, .int j => if inBig i = true then (if inBig j = true then .ok (.seq (rng i (j - i).toNat)) h2 else .no) else .no
  | _, _ => .no := rfl
@[simp] theorem z_gNm (i : Nat) (v : AV) : gNm i v σ h = some (σ.set i (some v), h) := rfl
@[simp] theorem z_gTp (gs : List G) (xs : List AV) : gTp gs (.tup xs) σ h = gAll gs xs σ h := rfl
@[simp] theorem z_gAll0 : gAll [] [] σ h = some (σ, h) := rfl
@[simp] theorem z_gAll1 (g : G) (gs : List G) (v : AV) (vs : List AV) : gAll (g :: gs) (v :: vs) σ h = match g v σ h with | some (σ1, h1) => gAll gs vs σ1 h1 | none => none := rfl
@[simp] theorem z_sNx : sNx σ h = .nx σ h := rfl
@[simp] theorem z_sBk : sBk σ h = .bk σ h := rfl
@[simp] theorem z_sCt : sCt σ h = .ct σ h := rfl
@[simp] theorem z_sSeq (s t : S) : sSeq s t σ h = match s σ h with | .nx σ1 h1 => t σ1 h1 | r => r := rfl
@[simp] theorem z_oNx (p : AS × AH) : oNx (some p) = .nx p.1 p.2 := rfl
@[simp] theorem z_sAsg (e : E) (g : G) : sAsg e g σ h = (e σ h).st σ fun v h1 => oNx (g v σ h1) := rfl
@[simp] theorem z_sPar (i j : Nat) (a b : E) : sPar i j a b σ h = ((a σ h).bind fun v h1 => (b σ h1).bind fun w h2 => .ok (v, w) h2).st σ fun p h2 => .nx ((σ.set i (some p.1)).set j (some p.2)) h2 := rfl
@[simp] theorem z_sAug (i : Nat) (f : AV → AV → M AV) (e : E) : sAug i f e σ h = match σ[i]? with | some (some x) => ((e σ h).bind fun y h1 => f x y h1).st σ fun v h1 => .nx (σ.set i (some v)) h1 | _ => .no := rfl
@[simp] theorem z_oSt (h1 : AH) : oSt σ (some h1) = .nx σ h1 := rfl
@[simp] theorem z_sSet (v o i : E) : sSet v o i σ h = ((v σ h).bind fun x h1 => (o σ h1).bind fun p h2 => (i σ h2).bind fun k h3 => .ok (x, p, k) h3).st σ fun t h1 => oSt σ (sPut t.2.1 t.2.2 t.1 h1) := rfl
@[simp] theorem z_sAugS (f : AV → AV → M AV) (o i e : E) : sAugS f o i e σ h = ((o σ h).bind fun p h1 => (i σ h1).bind fun k h2 => (oIx p k h2).bind fun x h3 => (e σ h3).bind fun y h4 => (f x y h4).bind fun z h5 => .ok (z, p, k) h5).st σ fun t h1 => oSt σ (sPut t.2.1 t.2.2 t.1 h1) := rfl
@[simp] theorem z_sIf (c : T) (s t : S) : sIf c s t σ h = (c σ h).st σ fun b h1 => if b = true then s σ h1 else t σ h1 := rfl
@[simp] theorem z_sRet (e : E) : sRet e σ h = (e σ h).st σ fun v h1 => .rt v h1 := rfl
@[simp] theorem z_sRetN : sRetN σ h = .rt .non h := rfl
@[simp] theorem z_sDrop (e : E) : sDrop e σ h = (e σ h).st σ fun _ h1 => .nx σ h1 := rfl
@[simp] theorem z_sRaise (c : String) (fs : List String) (a : A) : sRaise c fs a σ h = (a σ h).st σ fun vs h1 => if vs.length = fs.length then .ex ⟨c, fs.reverse, vs.reverse⟩ σ h1 else .no := rfl
@[simp] theorem z_sFor (it : I) (g : G) (b : S) : sFor it g b σ h = (it σ h).st σ fun i h1 => match i with
  | .seq xs => forL g b xs σ h1
  | .live n => forC n g b (match h1[n]? with | some (.lst xs) => xs.length | _ => 0) 0 σ h1 := rfl
@[simp] theorem z_sTry (sub : String → String → Option Bool) (b : S) (hs : List Hd) : sTry sub b hs σ h = match b σ h with | .ex e σ1 h1 => handle sub e σ1 h1 hs | r => r := rfl
@[simp] theorem z_eXf (f : String) (i : Nat) : eXf f i σ h = match σ[i]? with | some (some (.xcp _ ns xs)) => (match (ns.zip xs).lookup f with | some v => .ok v h | none => .no) | _ => .no := rfl
@[simp] theorem z_eXis (sub : String → String → Option Bool) (cs : List String) (i : Nat) : eXis sub cs i σ h = match σ[i]? with | some (some (.xcp c _ _)) => (match orAll (cs.map (sub c)) with | some b => .ok (.bl b) h | none => .no) | _ => .no := rfl
@[simp] theorem z_eLc (it : I) (g : G) (t : T) (e : E) (vs : List Nat) : eLc it g t e vs σ h = (lcOf it g t e vs σ h).bind fun xs h1 => .ok (.lst xs) h1 := rfl
@[simp] theorem z_eLcC (it : I) (g : G) (t : T) (e : E) (vs : List Nat) : eLcC it g t e vs σ h = (lcOf it g t e vs σ h).bind fun xs h1 => .ok (.cel h1.length) (h1 ++ [.lst xs]) := rfl
@[simp] theorem z_lcOf (it : I) (g : G) (t : T) (e : E) (vs : List Nat) : lcOf it g t e vs σ h = (it σ h).bind fun i h1 => match i with
  | .seq xs => noEx (lcL g t e (wipe σ vs) xs [] h1)
  | .live n => noEx (lcC n g t e (wipe σ vs) (match h1[n]? with | some (.lst xs) => xs.length | _ => 0) 0 [] h1) := rfl
@[simp] theorem z_noEx {α : Type} (a : α) : noEx (.ok a h) = .ok a h := rfl
/-! operations -/
@[simp] theorem z_addI (i j : Int) : oAdd (.int i) (.int j) h = .ok (.int (i + j)) h := rfl
@[simp] theorem z_addS (s t : List Nat) : oAdd (.str s) (.str t) h = if s.length + t.length ≤ LINE then .ok (.str (s ++ t)) h else .no := rfl
@[simp] theorem z_addT (s t : List AV) : oAdd (.tup s) (.tup t) h = if s.length + t.length ≤ LINE then .ok (.tup (s ++ t)) h else .no := rfl
@[simp] theorem z_addL (s t : List AV) : oAdd (.lst s) (.lst t) h = if s.length + t.length ≤ LINE then .ok (.lst (s ++ t)) h else .no := rfl
@[simp] theorem z_iaddI (i j : Int) : oIadd (.int i) (.int j) h = .ok (.int (i + j)) h := rfl
@[simp] theorem z_iaddS (s t : List Nat) : oIadd (.str s) (.str t) h = if s.length + t.length ≤ LINE then .ok (.str (s ++ t)) h else .no := rfl
@[simp] theorem z_subI (i j : Int) : oSub (.int i) (.int j) h = .ok (.int (i - j)) h := rfl
@[simp] theorem z_mulI (i j : Int) : oMul (.int i) (.int j) h = if (-18446744073709551616 < i ∧ i < 18446744073709551616) ∨ (-18446744073709551616 < j ∧ j < 18446744073709551616) then .ok (.int (i * j)) h else .no := rfl
@[simp] theorem z_mulS (c : Nat) (j : Int) : oMul (.str [c]) (.int j) h = if 2 ≤ j ∧ j ≤ 1000 then .ok (.str (List.replicate j.toNat c)) h else .no := rfl
@[simp] theorem z_isB (a b : Bool) : oIsB (.bl a) (.bl b) h = .ok (.bl (a == b)) h := rfl
@[simp] theorem z_notB (a b : Bool) : oNotB (.bl a) (.bl b) h = .ok (.bl (!(a == b))) h := rfl
@[simp] theorem z_ord (c : Nat) : cOrd [.str [c]] h = .ok (.int c) h := rfl
@[simp] theorem z_intS (s : List Nat) : cInt [.str s] h = if s.length ≤ 640 then (match intOf s with | some i => .ok (.int i) h | none => .no) else .no := rfl
@[simp] theorem z_repl (y : Nat) (z s : List Nat) : mRepl y z (.str s) h = if s.length + (s.length + 1) * z.length ≤ LINE then .ok (.str (repC y z s)) h else .no := rfl
@[simp] theorem z_fdivI (i j : Int) : oFdiv (.int i) (.int j) h = if 0 < j ∧ j < 1073741824 then .ok (.int (i / j)) h else .no := rfl
@[simp] theorem z_modI (i j : Int) : oMod (.int i) (.int j) h = if 0 < j then .ok (.int (i % j)) h else .no := rfl
@[simp] theorem z_powI (i j : Int) : oPow (.int i) (.int j) h = if 0 ≤ j ∧ j ≤ 1000000 ∧ i.natAbs < 18446744073709551616 then .ok (.int (i ^ j.toNat)) h else .no := rfl
@[simp] theorem z_shlI (i j : Int) : oShl (.int i) (.int j) h = if 0 ≤ j ∧ j ≤ 1000000 ∧ i.natAbs < 18446744073709551616 then .ok (.int (i * 2 ^ j.toNat)) h else .no := rfl
@[simp] theorem z_negI (i : Int) : oNeg (.int i) h = .ok (.int (-i)) h := rfl
@[simp] theorem z_ltI (i j : Int) : oLt (.int i) (.int j) h = .ok (.bl (decide (i < j))) h := rfl
@[simp] theorem z_leI (i j : Int) : oLe (.int i) (.int j) h = .ok (.bl (decide (i ≤ j))) h := rfl
@[simp] theorem z_gtI (i j : Int) : oGt (.int i) (.int j) h = .ok (.bl (decide (j < i))) h := rfl
@[simp] theorem z_geI (i j : Int) : oGe (.int i) (.int j) h = .ok (.bl (decide (j ≤ i))) h := rfl
@[simp] theorem z_eqI (i j : Int) : oEq (.int i) (.int j) h = .ok (.bl (i == j)) h := by simp [oEq, flatten, AV.fits, AV.eqv]
@[simp] theorem z_eqS (s t : List Nat) : oEq (.str s) (.str t) h = .ok (.bl (s == t)) h := rfl
@[simp] theorem z_eqB (a b : Bool) : oEq (.bl a) (.bl b) h = .ok (.bl (a == b)) h := by simp [oEq, flatten, AV.fits, AV.eqv]
@[simp] theorem z_neI (i j : Int) : oNe (.int i) (.int j) h = .ok (.bl (!(i == j))) h := by simp [oNe, flatten, AV.fits, AV.eqv]
@[simp] theorem z_neS (s t : List Nat) : oNe (.str s) (.str t) h = .ok (.bl (!(s == t))) h := rfl
@[simp] theorem z_isN (x : AV) : oIsN x h = .ok (.bl x.isN) h := rfl
@[simp] theorem z_notN (x : AV) : oNotN x h = .ok (.bl (!x.isN)) h := rfl
@[simp] theorem z_inS (c : Nat) (t : List Nat) : oIn (.str [c]) (.str t) h = .ok (.bl (decide (c ∈ t))) h := rfl
@[simp] theorem z_notIn (x y : AV) : oNotIn x y h = (oIn x y h).bind fun v h1 => match v with | .bl b => .ok (.bl (!b)) h1 | _ => .no := rfl
@[simp] theorem z_ixS (s : List Nat) (i : Int) : oIx (.str s) (.int i) h = if s.length ≤ LINE then (match atI s i with | some c => .ok (.str [c]) h | none => .no) else .no := rfl
@[simp] theorem z_ixT (xs : List AV) (i : Int) : oIx (.tup xs) (.int i) h = match atI xs i with | some v => .ok v h | none => .no := rfl
@[simp] theorem z_ixL (xs : List AV) (i : Int) : oIx (.lst xs) (.int i) h = match atI xs i with | some v => .ok v h | none => .no := rfl
@[simp] theorem z_ixR (t : Bool) (xs : List AV) (i : Int) : oIx (.scr t xs) (.int i) h = match atI xs i with | some v => .ok v h | none => .no := rfl
@[simp] theorem z_ixC (n : Nat) (y : AV) : oIx (.cel n) y h = match h[n]? with
    | some (.lst xs) => (match y with | .int i => (match atI xs i with | some v => .ok v h | none => .no) | _ => .no)
    | some (.dic t kvs) => if keyFor t y then (match look kvs y with | some v => .ok v h | none => .no) else .no
    | none => .no := by cases y <;> rfl
@[simp] theorem z_slS (s : List Nat) (lo hi : Option Int) : oSl (.str s) lo hi h = if s.length ≤ LINE then .ok (.str (cut s lo hi)) h else .no := rfl
@[simp] theorem z_slT (xs : List AV) (lo hi : Option Int) : oSl (.tup xs) lo hi h = .ok (.tup (cut xs lo hi)) h := rfl
@[simp] theorem z_slL (xs : List AV) (lo hi : Option Int) : oSl (.lst xs) lo hi h = .ok (.lst (cut xs lo hi)) h := rfl
@[simp] theorem z_slR (xs : List AV) (lo hi : Option Int) : oSl (.scr false xs) lo hi h = .ok (.lst (cut xs lo hi)) h := rfl
@[simp] theorem z_lenS (s : List Nat) : cLen [.str s] h = if s.length ≤ LINE then .ok (.int s.length) h else .no := rfl
@[simp] theorem z_lenT (s : List AV) : cLen [.tup s] h = .ok (.int s.length) h := rfl
@[simp] theorem z_lenL (s : List AV) : cLen [.lst s] h = .ok (.int s.length) h := rfl
@[simp] theorem z_lenR (t : Bool) (s : List AV) : cLen [.scr t s] h = .ok (.int s.length) h := rfl
@[simp] theorem z_lenC (n : Nat) : cLen [.cel n] h = match h[n]? with
      | some (.lst xs) => .ok (.int xs.length) h
      | some (.dic false kvs) => .ok (.int kvs.length) h
      | _ => .no := rfl
@[simp] theorem z_abs (i : Int) : cAbs [.int i] h = .ok (.int (if i < 0 then -i else i)) h := rfl
@[simp] theorem z_max2 (i j : Int) : cMax2 [.int i, .int j] h = .ok (.int (if j > i then j else i)) h := rfl
@[simp] theorem z_min2 (i j : Int) : cMin2 [.int i, .int j] h = .ok (.int (if j < i then j else i)) h := rfl
@[simp] theorem z_intI (i : Int) : cInt [.int i] h = .ok (.int i) h := rfl
@[simp] theorem z_intB (b : Bool) : cInt [.bl b] h = .ok (.int (b2i b)) h := rfl
@[simp] theorem z_str (i : Int) : cStr [.int i] h = if i.natAbs.log2 < 1920 then .ok (.str (intL i)) h else .no := rfl
@[simp] theorem z_list (x : AV) : cList [x] h = match seqOf h x with | some xs => .ok (.lst xs) h | none => .no := rfl
@[simp] theorem z_listC (x : AV) : cListC [x] h = match seqOf h x with | some xs => .ok (.cel h.length) (h ++ [.lst xs]) | none => .no := rfl
@[simp] theorem z_isTy (t : String) (x : AV) : oIsTy t x h = match isTy t x h with | some b => .ok (.bl b) h | none => .no := rfl
@[simp] theorem z_sPutC (n : Nat) (i v : AV) : sPut (.cel n) i v h = match h[n]? with
    | some (.lst xs) => (match i with
      | .int k => (match atN xs.length k with
        | some j => some (h.set n (.lst (xs.set j v)))
        | none => none)
      | _ => none)
    | some (.dic t kvs) => if keyFor t i = true ∧ kvs.length < LINE then some (h.set n (.dic t (put kvs i v))) else none
    | none => none := rfl
@[simp] theorem z_app (n : Nat) (y : AV) : mAppend (.cel n) y h = match h[n]? with
    | some (.lst xs) => if xs.length < LINE then .ok .non (h.set n (.lst (xs ++ [y]))) else .no
    | _ => .no := rfl
@[simp] theorem z_mDef (p n : Nat) (b : S) (vs : List AV) : mDef p n b vs h = if vs.length = p then (match b (start n vs) h with
  | .nx _ h1 => .ok .non h1
  | .rt v h1 => .ok v h1
  | .ex e _ h1 => .ex e h1
  | _ => .no) else .no := rfl
end
/-! ### loops -/
@[simp] theorem z_forL0 (g : G) (b : S) (σ : AS) (h : AH) : forL g b [] σ h = .nx σ h := rfl
theorem forL_inv {g : G} {b : S} (I : Nat → AS → AH → Prop) : ∀ (xs : List AV) (k : Nat) (σ : AS) (h : AH), I k σ h →
    (∀ (i : Nat) (x : AV) (σ : AS) (h : AH), xs[i]? = some x → I (k + i) σ h → ∃ σ1 h1 σ2 h2, g x σ h = some (σ1, h1) ∧ (b σ1 h1 = .nx σ2 h2 ∨ b σ1 h1 = .ct σ2 h2) ∧ I (k + i + 1) σ2 h2) →
    ∃ σ' h', forL g b xs σ h = .nx σ' h' ∧ I (k + xs.length) σ' h'
  | [], k, σ, h, h0, _ => ⟨σ, h, rfl, by simpa using h0⟩
  | x :: xs, k, σ, h, h0, st => by
    obtain ⟨σ1, h1, σ2, h2, e1, e2, i2⟩ := st 0 x σ h rfl (by simpa using h0)
    obtain ⟨σ', h', e3, i3⟩ := forL_inv I xs (k + 1) σ2 h2 (by simpa using i2) fun i y σ h hi hI => by
      obtain ⟨a, b', c, d, q1, q2, q3⟩ := st (i + 1) y σ h (by simpa using hi) (by rw [show k + (i + 1) = k + 1 + i by omega]; exact hI)
      exact ⟨a, b', c, d, q1, q2, by rw [show k + 1 + i + 1 = k + (i + 1) + 1 by omega]; exact q3⟩
    refine ⟨σ', h', ?_, by simpa [Nat.add_assoc, Nat.add_comm 1] using i3⟩
    unfold forL
    rw [e1]
    dsimp only
    rcases e2 with e2 | e2 <;> rw [e2] <;> exact e3
@[simp] theorem z_lcL0 (g : G) (t : T) (e : E) (σ : AS) (acc : List AV) (h : AH) : lcL g t e σ [] acc h = .ok acc h := rfl
/-- a comprehension without a test, by an invariant on the heap -/
theorem lcL_inv {g : G} {t : T} {e : E} {σ : AS} (I : Nat → List AV → AH → Prop) : ∀ (xs : List AV) (k : Nat) (acc : List AV) (h : AH), I k acc h → acc.length + xs.length ≤ LINE →
    (∀ (i : Nat) (x : AV) (acc : List AV) (h : AH), xs[i]? = some x → I (k + i) acc h → ∃ σ1 h1 b h2, g x σ h = some (σ1, h1) ∧ t σ1 h1 = .ok b h2 ∧ (b = false → I (k + i + 1) acc h2) ∧ (b = true → ∃ y h3, e σ1 h2 = .ok y h3 ∧ I (k + i + 1) (acc ++ [y]) h3)) →
    ∃ ys h', lcL g t e σ xs acc h = .ok ys h' ∧ I (k + xs.length) ys h'
  | [], k, acc, h, h0, _, _ => ⟨acc, h, rfl, by simpa using h0⟩
  | x :: xs, k, acc, h, h0, hl, st => by
    obtain ⟨σ1, h1, b, h2, e1, e2, i2, i3⟩ := st 0 x acc h rfl (by simpa using h0)
    have nxt : ∀ acc' h', acc'.length ≤ acc.length + 1 → I (k + 1) acc' h' → ∃ ys h'', lcL g t e σ xs acc' h' = .ok ys h'' ∧ I (k + (x :: xs).length) ys h'' := fun acc' h' hl' hI => by
      obtain ⟨ys, h'', q1, q2⟩ := lcL_inv I xs (k + 1) acc' h' hI (by simp at hl; omega) fun i y acc h hi hI => by
        obtain ⟨a, b', c, d, z1, z2, z3, z4⟩ := st (i + 1) y acc h (by simpa using hi) (by rw [show k + (i + 1) = k + 1 + i by omega]; exact hI)
        have e : k + (i + 1) + 1 = k + 1 + i + 1 := by omega
        rw [e] at z3 z4
        exact ⟨a, b', c, d, z1, z2, z3, z4⟩
      exact ⟨ys, h'', q1, by simpa [Nat.add_assoc, Nat.add_comm 1] using q2⟩
    cases b with
    | false =>
      obtain ⟨ys, h', q1, q2⟩ := nxt acc h2 (by omega) (i2 rfl)
      exact ⟨ys, h', by unfold lcL; rw [e1]; dsimp only; rw [e2]; simpa using q1, q2⟩
    | true =>
      obtain ⟨y, h3, e3, i4⟩ := i3 rfl
      obtain ⟨ys, h', q1, q2⟩ := nxt (acc ++ [y]) h3 (by simp) i4
      refine ⟨ys, h', ?_, q2⟩
      unfold lcL
      rw [e1]
      dsimp only
      rw [e2]
      simp only [Res.bind_ok, if_true]
      rw [if_pos (by simp at hl; omega), e3]
      exact q1
theorem rng_get {lo : Int} {n i : Nat} {x : AV} (h : (rng lo n)[i]? = some x) : i < n ∧ x = .int (lo + i) := by
  unfold rng at h
  rw [List.getElem?_map] at h
  by_cases hi : i < n
  · rw [List.getElem?_range hi] at h
    cases h
    exact ⟨hi, rfl⟩
  · rw [List.getElem?_eq_none (by simpa using hi)] at h
    cases h
@[simp] theorem rng_len {lo : Int} {n : Nat} : (rng lo n).length = n := by simp [rng]
/-! ### places -/
theorem atI_nat {α : Type} {xs : List α} {i : Nat} : atI xs (i : Int) = xs[i]? := by
  unfold atI atN
  rw [if_pos (by omega)]
  by_cases h : i < xs.length
  · rw [if_pos (by omega)]
    simp
  · rw [if_neg (by omega)]
    simp at h
    simp [h]
theorem atI_of {α : Type} {xs : List α} {i : Int} (h : 0 ≤ i) : atI xs i = xs[i.toNat]? := by
  obtain ⟨n, rfl⟩ := Int.eq_ofNat_of_zero_le h
  rw [atI_nat]
  rfl
@[simp] theorem atI_0 {α : Type} {x : α} {xs : List α} : atI (x :: xs) 0 = some x := by rw [show (0 : Int) = ((0 : Nat) : Int) from rfl, atI_nat]; rfl
@[simp] theorem atI_1 {α : Type} {x y : α} {xs : List α} : atI (x :: y :: xs) 1 = some y := by rw [show (1 : Int) = ((1 : Nat) : Int) from rfl, atI_nat]; rfl
@[simp] theorem atI_2 {α : Type} {x y z : α} {xs : List α} : atI (x :: y :: z :: xs) 2 = some z := by rw [show (2 : Int) = ((2 : Nat) : Int) from rfl, atI_nat]; rfl
@[simp] theorem atI_3 {α : Type} {x y z w : α} {xs : List α} : atI (x :: y :: z :: w :: xs) 3 = some w := by rw [show (3 : Int) = ((3 : Nat) : Int) from rfl, atI_nat]; rfl
@[simp] theorem line_is : LINE = 16777216 := rfl
theorem cut_to {α : Type} {xs : List α} {n : Int} (h : 0 ≤ n) : cut xs none (some n) = xs.take n.toNat := by
  unfold cut sIx
  simp only [if_neg (Int.not_lt.mpr h), List.drop_zero, Nat.sub_zero]
  by_cases hl : n.toNat ≤ xs.length
  · rw [Nat.min_eq_left hl]
  · rw [Nat.min_eq_right (by omega), List.take_of_length_le (Nat.le_refl _), List.take_of_length_le (by omega)]
theorem cut_from {α : Type} {xs : List α} {n : Int} (h : 0 ≤ n) : cut xs (some n) none = xs.drop n.toNat := by
  unfold cut sIx
  simp only [if_neg (Int.not_lt.mpr h)]
  by_cases hl : n.toNat ≤ xs.length
  · rw [Nat.min_eq_left hl, List.take_of_length_le (by simp)]
  · rw [Nat.min_eq_right (by omega), List.drop_of_length_le (Nat.le_refl _), List.drop_of_length_le (by omega)]
    simp
/-! ### step by step -/
theorem seq_nx {s t : S} {σ σ1 : AS} {h h1 : AH} (e : s σ h = .nx σ1 h1) : sSeq s t σ h = t σ1 h1 := by
  show (match s σ h with | .nx σ1 h1 => t σ1 h1 | r => r) = _
  rw [e]
theorem seq_rt {s t : S} {σ : AS} {h h1 : AH} {v : AV} (e : s σ h = .rt v h1) : sSeq s t σ h = .rt v h1 := by
  show (match s σ h with | .nx σ1 h1 => t σ1 h1 | r => r) = _
  rw [e]
theorem def_rt {p n : Nat} {b : S} {vs : List AV} {h h1 : AH} {v : AV} (hl : vs.length = p) (e : b (start n vs) h = .rt v h1) : mDef p n b vs h = .ok v h1 := by
  rw [z_mDef, if_pos hl, e]
theorem for_seq {it : I} {g : G} {b : S} {σ : AS} {h h1 : AH} {xs : List AV} {r : RS} (e : it σ h = .ok (.seq xs) h1) (f : forL g b xs σ h1 = r) : sFor it g b σ h = r := by
  rw [z_sFor, e]
  exact f
end Mi

end

section
set_option maxHeartbeats 4000000
/-! MiLaw: the words that every law uses: the draws from the script, sameness. -/
namespace MiL
open Mi
/-! ### the terms (printed by gen.py) -/
def m__law_begin : List AV → M AV := mDef 1 2 (sRet (eLstC (aCons (eLc (iSeq (eSl (eVar 0) oNo (oAt (eC (.int 63))))) (gNm 1) (tYes) (eCall cInt (aCons (eVar 1) (aNil))) [1]) (aCons (eC (.int 0)) (aCons (eC (.int 0)) (aCons (eC (.int 7)) (aNil)))))))
def m__law_draw : List AV → M AV := mDef 2 5 (sSeq (sIf (tB (eOp2 oGt (eOp2 oIx (eVar 0) (eC (.int 2))) (eC (.int 0)))) (sSeq (sAsg (eOp2 oIx (eVar 0) (eC (.int 2))) (gNm 3)) (sSeq (sSet (eOp2 oFdiv (eVar 3) (eVar 1)) (eVar 0) (eC (.int 2))) (sRet (eOp2 oMod (eCall cInt (aCons (eVar 3) (aNil))) (eVar 1))))) (sNx)) (sSeq (sAsg (eC (.int 0)) (gNm 2)) (sSeq (sIf (tB (eOp2 oLt (eOp2 oIx (eVar 0) (eC (.int 1))) (eCall cLen (aCons (eOp2 oIx (eVar 0) (eC (.int 0))) (aNil))))) (sSeq (sAsg (eOp2 oIx (eOp2 oIx (eVar 0) (eC (.int 0))) (eOp2 oIx (eVar 0) (eC (.int 1)))) (gNm 4)) (sAsg (eOp2 oAdd (eOp2 oMul (eC (.int 2)) (eCall cAbs (aCons (eVar 4) (aNil)))) (eCall cInt (aCons (eOp2 oLt (eVar 4) (eC (.int 0))) (aNil)))) (gNm 2))) (sNx)) (sSeq (sAugS oIadd (eVar 0) (eC (.int 1)) (eC (.int 1))) (sSeq (sIf (tB (eOp2 oGe (eVar 2) (eOp2 oMul (eC (.int 2)) (eOp2 oPow (eC (.int 10)) (eC (.int 18)))))) (sSeq (sAsg (eOp2 oMod (eCall cInt (aCons (eOp2 oFdiv (eVar 2) (eC (.int 2))) (aNil))) (eOp2 oShl (eC (.int 1)) (eC (.int 6000)))) (gNm 3)) (sSeq (sSet (eOp2 oFdiv (eVar 3) (eVar 1)) (eVar 0) (eC (.int 2))) (sRet (eOp2 oMod (eCall cInt (aCons (eVar 3) (aNil))) (eVar 1))))) (sNx)) (sSeq (sSet (eOp2 oMod (eCall cInt (aCons (eOp2 oAdd (eOp2 oAdd (eOp2 oAdd (eOp2 oMul (eOp2 oIx (eVar 0) (eC (.int 3))) (eC (.int 48271))) (eOp2 oMul (eOp2 oMod (eCall cInt (aCons (eVar 2) (aNil))) (eC (.int 2147483629))) (eC (.int 16807)))) (eOp2 oMul (eOp2 oIx (eVar 0) (eC (.int 1))) (eC (.int 69621)))) (eC (.int 11))) (aNil))) (eC (.int 2147483647))) (eVar 0) (eC (.int 3))) (sRet (eOp2 oMod (eCall cInt (aCons (eOp2 oFdiv (eOp2 oIx (eVar 0) (eC (.int 3))) (eC (.int 16))) (aNil))) (eVar 1)))))))))
def m__law_pick : List AV → M AV := mDef 2 2 (sRet (eOp2 oIx (eVar 1) (eCall m__law_draw (aCons (eVar 0) (aCons (eCall cLen (aCons (eVar 1) (aNil))) (aNil))))))
def m__law_is_int : List AV → M AV := mDef 1 1 (sRet (eAnd (eOp1 (oIsTy "int") (eVar 0)) (eNot (eOp1 (oIsTy "bool") (eVar 0)))))
def b__law_same (mk : List AV → M AV) : List AV → M AV := mDef 2 3 (sSeq (sIf (tB (eOp1 (oIsTy "tuple") (eVar 0))) (sSeq (sIf (tOr (tNot (tB (eOp1 (oIsTy "tuple") (eVar 1)))) (tB (eOp2 oNe (eCall cLen (aCons (eVar 0) (aNil))) (eCall cLen (aCons (eVar 1) (aNil)))))) (sRet (eC (.bl false))) (sNx)) (sRet (eOp2 oEq (eCall cLen (aCons (eLc (iRng1 (eCall cLen (aCons (eVar 0) (aNil)))) (gNm 2) (tNot (tB (eCall mk (aCons (eOp2 oIx (eVar 0) (eVar 2)) (aCons (eOp2 oIx (eVar 1) (eVar 2)) (aNil)))))) (eVar 2) [2]) (aNil))) (eC (.int 0))))) (sNx)) (sSeq (sIf (tOr (tB (eOp1 (oIsTy "bool") (eVar 0))) (tOr (tB (eOp1 oIsN (eVar 0))) (tB (eOp1 (oIsTy "str") (eVar 0))))) (sRet (eAnd (eOp2 oEq (eOp1 (oIsTy "bool") (eVar 0)) (eOp1 (oIsTy "bool") (eVar 1))) (eOp2 oEq (eVar 0) (eVar 1)))) (sNx)) (sRet (eAnd (eCall m__law_is_int (aCons (eVar 0) (aNil))) (eAnd (eCall m__law_is_int (aCons (eVar 1) (aNil))) (eOp2 oEq (eVar 0) (eVar 1)))))))
def m__law_same : Nat → List AV → M AV
  | 0 => fun _ _ => .no
  | k + 1 => b__law_same (m__law_same k)
theorem same_succ (k : Nat) : m__law_same (k + 1) = b__law_same (m__law_same k) := rfl
/-! ### the draws -/
/-- the draws' cell -/
def Dr (c : HC) : Prop := ∃ (xs : List Int) (p f s : Int), c = .lst [.lst (xs.map AV.int), .int p, .int f, .int s] ∧ 0 ≤ p ∧ 0 ≤ f
theorem draw_ok {c : HC} {t : AH} {many : Int} (hd : Dr c) (h0 : 0 < many) (h1 : many < 1073741824) :
    ∃ r c', 0 ≤ r ∧ r < many ∧ Dr c' ∧ m__law_draw [.cel 0, .int many] (c :: t) = .ok (.int r) (c' :: t) := by
  obtain ⟨xs, p, f, s, rfl, hp, hf⟩ := hd
  by_cases hf0 : 0 < f
  · refine ⟨f % many, .lst [.lst (xs.map AV.int), .int p, .int (f / many), .int s], Int.emod_nonneg _ (by omega), Int.emod_lt_of_pos _ h0, ⟨xs, p, f / many, s, rfl, hp, Int.ediv_nonneg hf (by omega)⟩, ?_⟩
    simp [m__law_draw, start, hf0, h0, h1, atN]
  · have fin : ∀ (sz : Int), 0 ≤ sz → ∃ r c', 0 ≤ r ∧ r < many ∧ Dr c' ∧
        (if 2000000000000000000 ≤ sz then (r = sz / 2 % 2 ^ 6000 % many ∧ c' = HC.lst [.lst (xs.map AV.int), .int (p + 1), .int (sz / 2 % 2 ^ 6000 / many), .int s])
          else (r = (s * 48271 + sz % 2147483629 * 16807 + (p + 1) * 69621 + 11) % 2147483647 / 16 % many ∧ c' = HC.lst [.lst (xs.map AV.int), .int (p + 1), .int f, .int ((s * 48271 + sz % 2147483629 * 16807 + (p + 1) * 69621 + 11) % 2147483647)])) := by
      intro sz hz
      by_cases hb : 2000000000000000000 ≤ sz
      · refine ⟨_, _, ?_, ?_, ?_, by rw [if_pos hb]; exact ⟨rfl, rfl⟩⟩
        · exact Int.emod_nonneg _ (by omega)
        · exact Int.emod_lt_of_pos _ h0
        · exact ⟨xs, p + 1, _, s, rfl, by omega, Int.ediv_nonneg (Int.emod_nonneg _ (Int.ne_of_gt (Int.pow_pos (by decide)))) (by omega)⟩
      · refine ⟨_, _, ?_, ?_, ?_, by rw [if_neg hb]; exact ⟨rfl, rfl⟩⟩
        · exact Int.emod_nonneg _ (by omega)
        · exact Int.emod_lt_of_pos _ h0
        · exact ⟨xs, p + 1, f, _, rfl, by omega, hf⟩
    by_cases hl : p < xs.length
    · obtain ⟨x, hx⟩ : ∃ x, xs[p.toNat]? = some x := ⟨_, List.getElem?_eq_getElem (by omega)⟩
      obtain ⟨r, c', k1, k2, k3, k4⟩ := fin (2 * (if x < 0 then -x else x) + b2i (decide (x < 0))) (by unfold b2i; split <;> split <;> omega)
      refine ⟨r, c', k1, k2, k3, ?_⟩
      by_cases hb : 2000000000000000000 ≤ 2 * (if x < 0 then -x else x) + b2i (decide (x < 0))
      · rw [if_pos hb] at k4
        obtain ⟨rfl, rfl⟩ := k4
        have big : (0 : Int) < 2 ^ 6000 := Int.pow_pos (by decide)
        simp [m__law_draw, start, hf0, h0, h1, atN, hl, atI_of hp, hx, hb, big]
      · rw [if_neg hb] at k4
        obtain ⟨rfl, rfl⟩ := k4
        simp [m__law_draw, start, hf0, h0, h1, atN, hl, atI_of hp, hx, hb]
    · obtain ⟨r, c', k1, k2, k3, k4⟩ := fin 0 (by omega)
      refine ⟨r, c', k1, k2, k3, ?_⟩
      rw [if_neg (by decide)] at k4
      obtain ⟨rfl, rfl⟩ := k4
      simp [m__law_draw, start, hf0, h0, h1, atN, hl]
theorem begin_ok (ns : List Int) (hn : ns.length ≤ 63) : ∃ c, Dr c ∧ m__law_begin [.scr false (ns.map .int)] [] = .ok (.cel 0) [c] := by
  have e : ∀ (l : List Int) (acc : List AV) (σ : AS), σ = [some (.scr false (ns.map .int)), none] → acc.length + l.length ≤ 16777216 → lcL (gNm 1) tYes (eCall cInt (aCons (eVar 1) aNil)) σ (l.map AV.int) acc [] = .ok (acc ++ l.map AV.int) [] := by
    intro l
    induction l with
    | nil => intro acc σ _ _; simp
    | cons x l ih =>
      intro acc σ hσ hl
      subst hσ
      simp at hl
      rw [List.map_cons]
      unfold lcL
      have hlt : acc.length < 16777216 := by omega
      simp [hlt]
      rw [ih (acc ++ [AV.int x]) _ rfl (by simp; omega)]
      simp
  refine ⟨.lst [.lst (ns.map .int), .int 0, .int 0, .int 7], ⟨ns, 0, 0, 7, rfl, by decide, by decide⟩, ?_⟩
  have hc : cut (ns.map AV.int) none (some 63) = ns.map AV.int := by
    rw [cut_to (by decide), List.take_of_length_le (by simp; omega)]
  have e2 := e ns [] _ rfl (by simp; omega)
  simp [m__law_begin, start, hc, wipe, e2]
/-- d, row: one of the row's items -/
theorem pick_ok {c : HC} {t : AH} {v : AV} {xs : List AV} (hd : Dr c) (hv : ∀ c, seqOf (c :: t) v = some xs) (hc : v ≠ .cel 0) (h0 : 0 < xs.length) (h1 : xs.length < 1073741824) :
    ∃ x c', x ∈ xs ∧ Dr c' ∧ m__law_pick [.cel 0, v] (c :: t) = .ok x (c' :: t) := by
  obtain ⟨r, c', r0, r1, hd', e⟩ := draw_ok (t := t) (many := xs.length) hd (by omega) (by omega)
  obtain ⟨x, hx⟩ : ∃ x, xs[r.toNat]? = some x := ⟨_, List.getElem?_eq_getElem (by omega)⟩
  have hi : ∀ c, oIx v (.int r) (c :: t) = .ok x (c :: t) := fun c => by
    have hvc := hv c
    cases v with
    | tup ys => cases hvc; simp [atI_of r0, hx]
    | lst ys => cases hvc; simp [atI_of r0, hx]
    | scr b ys => cases hvc; simp [atI_of r0, hx]
    | cel n =>
      simp only [seqOf, lstOf] at hvc
      rw [z_ixC]
      split at hvc
      · rename_i ys hy
        cases hvc
        rw [hy]
        simp [atI_of r0, hx]
      · cases hvc
    | _ => cases hvc
  have hln : ∀ c, cLen [v] (c :: t) = .ok (.int xs.length) (c :: t) := fun c => by
    have hvc := hv c
    cases v with
    | tup ys => cases hvc; rfl
    | lst ys => cases hvc; rfl
    | scr b ys => cases hvc; rfl
    | cel n =>
      simp only [seqOf, lstOf] at hvc
      rw [z_lenC]
      split at hvc
      · rename_i ys hy
        cases hvc
        rw [hy]
      · cases hvc
    | _ => cases hvc
  refine ⟨x, c', List.mem_of_getElem? hx, hd', ?_⟩
  simp [m__law_pick, start, hln, e, hi]
/-- d, row: one of a text's signs -/
theorem pick_str {c : HC} {t : AH} {s : List Nat} (hd : Dr c) (h0 : 0 < s.length) (h1 : s.length < 1000000) :
    ∃ x c', x ∈ s ∧ Dr c' ∧ m__law_pick [.cel 0, .str s] (c :: t) = .ok (.str [x]) (c' :: t) := by
  obtain ⟨r, c', r0, r1, hd', e⟩ := draw_ok (t := t) (many := s.length) hd (by omega) (by omega)
  obtain ⟨x, hx⟩ : ∃ x, s[r.toNat]? = some x := ⟨_, List.getElem?_eq_getElem (by omega)⟩
  have hl : s.length ≤ 16777216 := by omega
  refine ⟨x, c', List.mem_of_getElem? hx, hd', ?_⟩
  simp [m__law_pick, start, hl, e, atI_of r0, hx]
/-! ### sameness -/
mutual
/-- data that _law_same compares, at most k deep -/
def plain : Nat → AV → Bool
  | _, .non => true
  | _, .bl _ => true
  | _, .int _ => true
  | _, .str s => s.all (· < 1114112)
  | k + 1, .tup xs => decide (xs.length ≤ 100000) && plains k xs
  | _, _ => false
def plains : Nat → List AV → Bool
  | _, [] => true
  | k, x :: xs => plain k x && plains k xs
end
mutual
def sameB : AV → AV → Bool
  | .tup xs, .tup ys => sameBs xs ys
  | .non, .non => true
  | .bl a, .bl b => a == b
  | .int a, .int b => a == b
  | .str a, .str b => a == b
  | _, _ => false
def sameBs : List AV → List AV → Bool
  | [], [] => true
  | x :: xs, y :: ys => sameB x y && sameBs xs ys
  | _, _ => false
end
mutual
theorem plain_fits : ∀ (k : Nat) (v : AV), plain k v = true → ∀ d, k ≤ d → v.fits d = true
  | k, .non, _, d, _ => by cases d <;> simp [AV.fits]
  | k, .bl _, _, d, _ => by cases d <;> simp [AV.fits]
  | k, .int _, _, d, _ => by cases d <;> simp [AV.fits]
  | k, .str s, h, d, _ => by cases d <;> (cases k <;> simpa [AV.fits, plain] using h)
  | 0, .tup xs, h, _, _ => by simp [plain] at h
  | k + 1, .tup xs, h, 0, hd => by omega
  | k + 1, .tup xs, h, d + 1, hd => by
    simp only [plain, Bool.and_eq_true] at h
    simp only [AV.fits]
    exact plains_fits k xs h.2 d (by omega)
  | k, .lst _, h, _, _ => by cases k <;> simp [plain] at h
  | k, .scr _ _, h, _, _ => by cases k <;> simp [plain] at h
  | k, .cel _, h, _, _ => by cases k <;> simp [plain] at h
  | k, .xcp _ _ _, h, _, _ => by cases k <;> simp [plain] at h
theorem plains_fits : ∀ (k : Nat) (xs : List AV), plains k xs = true → ∀ d, k ≤ d → AV.fitss d xs = true
  | _, [], _, d, _ => by simp [AV.fitss]
  | k, x :: xs, h, d, hd => by
    simp only [plains, Bool.and_eq_true] at h
    simp only [AV.fitss, Bool.and_eq_true]
    exact ⟨plain_fits k x h.1 d hd, plains_fits k xs h.2 d hd⟩
end
theorem plains_get : ∀ {k : Nat} {xs : List AV} {i : Nat} {x : AV}, plains k xs = true → xs[i]? = some x → plain k x = true
  | _, [], _, _, _, h => by simp at h
  | k, y :: xs, 0, x, h, e => by
    simp at e
    subst e
    simp only [plains, Bool.and_eq_true] at h
    exact h.1
  | k, y :: xs, i + 1, x, h, e => by
    simp only [plains, Bool.and_eq_true] at h
    exact plains_get h.2 (by simpa using e)
theorem sameBs_iff : ∀ {xs ys : List AV}, xs.length = ys.length → (sameBs xs ys = true ↔ ∀ (j : Nat) (x y : AV), xs[j]? = some x → ys[j]? = some y → sameB x y = true)
  | [], [], _ => by simp [sameBs]
  | x :: xs, y :: ys, h => by
    simp only [sameBs, Bool.and_eq_true]
    rw [sameBs_iff (by simpa using h)]
    constructor
    · rintro ⟨h1, h2⟩ j a b e1 e2
      cases j with
      | zero =>
        simp at e1 e2
        subst e1 e2
        exact h1
      | succ j => exact h2 j a b (by simpa using e1) (by simpa using e2)
    · intro h2
      exact ⟨h2 0 x y rfl rfl, fun j a b e1 e2 => h2 (j + 1) a b (by simpa using e1) (by simpa using e2)⟩
  | [], _ :: _, h => by cases h
  | _ :: _, [], h => by cases h
def isI : AV → Bool
  | .int _ => true
  | _ => false
theorem is_int_ok (v : AV) (h : AH) (hv : ∃ k, plain k v = true) : m__law_is_int [v] h = .ok (.bl (isI v)) h := by
  obtain ⟨k, hk⟩ := hv
  cases v <;> first | (simp [m__law_is_int, start, isTy, isI]; done) | (cases k <;> simp [plain] at hk)
theorem eq_plain {v w : AV} {k : Nat} {h : AH} (hk : k ≤ 60) (hv : plain k v = true) (hw : plain k w = true) : oEq v w h = .ok (.bl (v.eqv w)) h := by
  have f1 : flatten h v = v := by cases v <;> first | rfl | (cases k <;> simp [plain] at hv)
  have f2 : flatten h w = w := by cases w <;> first | rfl | (cases k <;> simp [plain] at hw)
  have g1 := plain_fits k v hv 60 hk
  have g2 := plain_fits k w hw 60 hk
  unfold oEq
  split
  · simp [AV.eqv]
  · rw [f1, f2, g1, g2]
    rfl
def isT : AV → Bool
  | .tup _ => true
  | _ => false
theorem same_base {k j : Nat} {v w : AV} {h : AH} (hj : j ≤ 60) (hv : plain j v = true) (hw : plain j w = true) (nt : isT v = false) : m__law_same (k + 1) [v, w] h = .ok (.bl (sameB v w)) h := by
  have iv := is_int_ok v h ⟨_, hv⟩
  have iw := is_int_ok w h ⟨_, hw⟩
  have eq := eq_plain (h := h) hj hv hw
  rw [same_succ]
  generalize m__law_same k = ms
  cases v with
  | tup xs => cases nt
  | lst _ => cases j <;> simp [plain] at hv
  | scr _ _ => cases j <;> simp [plain] at hv
  | cel _ => cases j <;> simp [plain] at hv
  | xcp _ _ _ => cases j <;> simp [plain] at hv
  | non => cases w <;> first | (simp [b__law_same, start, isTy, eq, iv, iw, isI, sameB, AV.eqv, AV.isN]; done) | (cases j <;> simp [plain] at hw)
  | bl b => cases w <;> first | (simp [b__law_same, start, isTy, eq, iv, iw, isI, sameB, AV.eqv, AV.isN]; done) | (cases j <;> simp [plain] at hw)
  | int b => cases w <;> first | (simp [b__law_same, start, isTy, eq, iv, iw, isI, sameB, AV.eqv, AV.isN]; done) | (cases j <;> simp [plain] at hw)
  | str b => cases w <;> first | (simp [b__law_same, start, isTy, eq, iv, iw, isI, sameB, AV.eqv, AV.isN]; done) | (cases j <;> simp [plain] at hw)
theorem same_tup {k : Nat} {xs ys zs : List AV} {h : AH} (hl : xs.length = ys.length) (hB : inBig (xs.length : Int) = true)
    (e : lcL (gNm 2) (tNot (tB (eCall (m__law_same k) (aCons (eOp2 oIx (eVar 0) (eVar 2)) (aCons (eOp2 oIx (eVar 1) (eVar 2)) (aNil)))))) (eVar 2) [some (.tup xs), some (.tup ys), none] (rng 0 xs.length) [] h = .ok zs h) :
    m__law_same (k + 1) [.tup xs, .tup ys] h = .ok (.bl ((zs.length : Int) == 0)) h := by
  rw [same_succ]
  have hle : ((xs.length : Int) == (ys.length : Int)) = true := by simp [hl]
  simp [b__law_same, start, isTy, hle, wipe, hB, e]
theorem same_ok : ∀ (k : Nat) (v w : AV) (h : AH), k ≤ 50 → plain k v = true → plain k w = true → m__law_same (k + 1) [v, w] h = .ok (.bl (sameB v w)) h := by
  intro k
  induction k with
  | zero =>
    intro v w h hk hv hw
    exact same_base (by omega) hv hw (by cases v <;> simp_all [plain, isT])
  | succ k ih =>
    intro v w h hk hv hw
    cases v with
    | tup xs =>
      cases w with
      | tup ys =>
        simp only [plain, Bool.and_eq_true, decide_eq_true_eq] at hv hw
        by_cases hl : xs.length = ys.length
        · obtain ⟨zs, h', e, hI⟩ := lcL_inv (g := gNm 2) (t := tNot (tB (eCall (m__law_same (k + 1)) (aCons (eOp2 oIx (eVar 0) (eVar 2)) (aCons (eOp2 oIx (eVar 1) (eVar 2)) (aNil)))))) (e := eVar 2) (σ := [some (.tup xs), some (.tup ys), none])
            (fun i acc h' => h' = h ∧ (acc = [] ↔ ∀ (j : Nat) (x y : AV), j < i → xs[j]? = some x → ys[j]? = some y → sameB x y = true)) (rng 0 xs.length) 0 [] h ⟨rfl, by simp⟩ (by simp; omega) fun i x acc h' hx ⟨e1, e2⟩ => by
              subst e1
              obtain ⟨hi, rfl⟩ := rng_get hx
              rw [Nat.zero_add] at e2 ⊢
              obtain ⟨a, ha⟩ : ∃ a, xs[i]? = some a := ⟨_, List.getElem?_eq_getElem hi⟩
              obtain ⟨b, hb⟩ : ∃ b, ys[i]? = some b := ⟨_, List.getElem?_eq_getElem (by omega)⟩
              have es := ih a b h' (by omega) (plains_get hv.2 ha) (plains_get hw.2 hb)
              refine ⟨_, _, !sameB a b, h', rfl, ?_, fun hs => ⟨rfl, ?_⟩, fun hs => ⟨.int (0 + (i : Int)), h', ?_, rfl, ?_⟩⟩
              · simp [atI_nat, ha, hb, es]
              · rw [e2]
                refine ⟨fun q j x y hj ex ey => ?_, fun q j x y hj => q j x y (by omega)⟩
                by_cases z : j = i
                · subst z
                  rw [ha] at ex
                  rw [hb] at ey
                  cases ex
                  cases ey
                  simpa using hs
                · exact q j x y (by omega) ex ey
              · simp
              · refine ⟨fun q => by simp at q, fun q => ?_⟩
                have := q i a b (by omega) ha hb
                rw [this] at hs
                cases hs
          obtain ⟨rfl, hz⟩ := hI
          rw [Nat.zero_add, rng_len] at hz
          have hlen : ((zs.length : Int) == 0) = sameB (.tup xs) (.tup ys) := by
            show _ = sameBs xs ys
            rw [Bool.eq_iff_iff, sameBs_iff hl]
            simp only [beq_iff_eq]
            constructor
            · intro q j x y ex ey
              exact hz.mp (List.length_eq_zero_iff.mp (by omega)) j x y (List.getElem?_eq_some_iff.mp ex).1 ex ey
            · intro q
              rw [hz.mpr fun j x y _ => q j x y]
              rfl
          have hBIG : inBig (xs.length : Int) = true := inBig_of (by omega) (by omega)
          rw [same_tup hl hBIG e, hlen]
        · have hne : ((xs.length : Int) == (ys.length : Int)) = false := by simp; omega
          have hs : sameB (.tup xs) (.tup ys) = false := by
            show sameBs xs ys = false
            have : ∀ (xs ys : List AV), xs.length ≠ ys.length → sameBs xs ys = false := by
              intro xs
              induction xs with
              | nil => intro ys h; cases ys <;> simp_all [sameBs]
              | cons x xs ih =>
                intro ys h
                cases ys with
                | nil => simp [sameBs]
                | cons y ys => simp [sameBs, ih ys (by simpa using h)]
            exact this xs ys hl
          rw [same_succ]
          generalize m__law_same (k + 1) = ms
          simp [b__law_same, start, isTy, hne, hs]
      | _ => first | (simp [plain] at hw; done) | (rw [same_succ]; generalize m__law_same (k + 1) = ms; simp [b__law_same, start, isTy, sameB])
    | _ => exact same_base (by omega) hv hw rfl
theorem sameB_refl : ∀ (v : AV) (k : Nat), plain k v = true → sameB v v = true := by
  intro v k
  induction k generalizing v with
  | zero => intro h; cases v <;> simp_all [plain, sameB]
  | succ k ih =>
    intro h
    cases v with
    | tup xs =>
      simp only [plain, Bool.and_eq_true] at h
      show sameBs xs xs = true
      rw [sameBs_iff rfl]
      intro j x y e1 e2
      rw [e1] at e2
      cases e2
      exact ih x (plains_get h.2 e1)
    | _ => simp_all [plain, sameB]
theorem same_refl {k : Nat} {v : AV} {h : AH} (hk : k ≤ 50) (hv : plain k v = true) : m__law_same (k + 1) [v, v] h = .ok (.bl true) h := by
  rw [same_ok k v v h hk hv hv, sameB_refl v k hv]
end MiL

end

section
set_option maxHeartbeats 4000000
/-! MiStr: texts: join and split. -/
namespace Mi
@[simp] theorem strsOf_map (ss : List (List Nat)) : strsOf (ss.map AV.str) = some ss := by
  induction ss with
  | nil => rfl
  | cons s r ih => rw [List.map_cons, strsOf, ih]; rfl
@[simp] theorem z_join (s : List Nat) (y : AV) (h : AH) : mJoin (.str s) y h = match seqOf h y with
  | some ys => (match strsOf ys with
    | some l => if lenSum s l ≤ LINE then .ok (.str (joinL s l)) h else .no
    | none => .no)
  | none => .no := by
  unfold mJoin
  cases e : seqOf h y <;> rfl
@[simp] theorem z_split (s t : List Nat) (h : AH) : mSplit (.str s) (.str t) h = if t ≠ [] ∧ s.length + 2 ≤ LINE ∧ t.all (· < 256) then .ok (.lst ((spl t 0 [] s).map .str)) h else .no := rfl
theorem pre_one (c x : Nat) (r : List Nat) : pre [c] (x :: r) = (x == c) := by
  unfold pre
  simp
theorem spl_c (c x : Nat) (acc r : List Nat) : spl [c] 0 acc (x :: r) = if (x == c) = true then acc :: spl [c] 0 [] r else spl [c] 0 (acc ++ [x]) r := by
  rw [spl, pre_one]
  rfl
theorem spl_last {c : Nat} : ∀ (s acc : List Nat), c ∉ s → spl [c] 0 acc s = [acc ++ s]
  | [], acc, _ => by simp [spl]
  | x :: s, acc, h => by
    have hx : (x == c) = false := by simp at h ⊢; exact fun z => h.1 z.symm
    rw [spl_c, hx]
    simp only [Bool.false_eq_true, if_false]
    rw [spl_last s (acc ++ [x]) (by simp at h; exact h.2)]
    simp
theorem spl_app {c : Nat} {r : List Nat} : ∀ (s acc : List Nat), c ∉ s → spl [c] 0 acc (s ++ c :: r) = (acc ++ s) :: spl [c] 0 [] r
  | [], acc, _ => by
    show spl [c] 0 acc (c :: r) = _
    rw [spl_c]
    simp
  | x :: s, acc, h => by
    have hx : (x == c) = false := by simp at h ⊢; exact fun z => h.1 z.symm
    show spl [c] 0 acc (x :: (s ++ c :: r)) = _
    rw [spl_c, hx]
    simp only [Bool.false_eq_true, if_false]
    rw [spl_app s (acc ++ [x]) (by simp at h; exact h.2)]
    simp
theorem spl_join {c : Nat} : ∀ (ss : List (List Nat)), ss ≠ [] → (∀ s ∈ ss, c ∉ s) → spl [c] 0 [] (joinL [c] ss) = ss
  | [], h, _ => absurd rfl h
  | [s], _, h => by
    show spl [c] 0 [] s = _
    rw [spl_last s [] (h s (by simp))]
    simp
  | s :: t :: r, _, h => by
    show spl [c] 0 [] (s ++ [c] ++ joinL [c] (t :: r)) = _
    rw [List.append_assoc]
    show spl [c] 0 [] (s ++ c :: joinL [c] (t :: r)) = _
    rw [spl_app s [] (h s (by simp)), spl_join (t :: r) (by simp) fun x hx => h x (List.mem_cons_of_mem _ hx)]
    simp
theorem lenSum_le {S : List Nat} {b : Nat} : ∀ (ss : List (List Nat)), (∀ s ∈ ss, s.length ≤ b) → lenSum S ss ≤ ss.length * (b + S.length)
  | [], _ => by simp [lenSum]
  | s :: r, h => by
    have h1 := h s (by simp)
    have h2 := lenSum_le (S := S) r fun x hx => h x (List.mem_cons_of_mem _ hx)
    simp only [lenSum, List.length_cons, Nat.add_mul, Nat.one_mul] at *
    omega
theorem joinL_len {S : List Nat} : ∀ (ss : List (List Nat)), (joinL S ss).length ≤ lenSum S ss
  | [] => by simp [joinL]
  | [s] => by simp [joinL, lenSum]
  | s :: t :: r => by
    have h := joinL_len (S := S) (t :: r)
    show (s ++ S ++ joinL S (t :: r)).length ≤ s.length + S.length + lenSum S (t :: r)
    simp only [List.length_append]
    omega
theorem joinL_mem {S : List Nat} : ∀ {ss : List (List Nat)} {x : Nat}, x ∈ joinL S ss → x ∈ S ∨ ∃ s ∈ ss, x ∈ s
  | [], x, h => by cases h
  | [s], x, h => .inr ⟨s, by simp, h⟩
  | s :: t :: r, x, h => by
    have h' : x ∈ s ++ S ++ joinL S (t :: r) := h
    simp only [List.mem_append] at h'
    rcases h' with (h' | h') | h'
    · exact .inr ⟨s, by simp, h'⟩
    · exact .inl h'
    · rcases joinL_mem h' with q | ⟨u, hu, q⟩
      · exact .inl q
      · exact .inr ⟨u, List.mem_cons_of_mem _ hu, q⟩
end Mi

end

section
set_option maxHeartbeats 4000000
/-! MiFun: plain words: dicts, heaps, loops. -/
namespace Mi
/-! ### steps -/
theorem if_t {c : T} {s t : S} {σ : AS} {h h1 : AH} (e : c σ h = .ok true h1) : sIf c s t σ h = s σ h1 := by
  show (c σ h).st σ (fun b h1 => if b = true then s σ h1 else t σ h1) = _
  rw [e]
  rfl
theorem if_f {c : T} {s t : S} {σ : AS} {h h1 : AH} (e : c σ h = .ok false h1) : sIf c s t σ h = t σ h1 := by
  show (c σ h).st σ (fun b h1 => if b = true then s σ h1 else t σ h1) = _
  rw [e]
  rfl
theorem if_no {c : T} {s : S} {σ : AS} {h h1 : AH} (e : c σ h = .ok false h1) : sIf c s sNx σ h = .nx σ h1 := if_f e
theorem seq_ex {s t : S} {σ σ1 : AS} {h h1 : AH} {x : AX} (e : s σ h = .ex x σ1 h1) : sSeq s t σ h = .ex x σ1 h1 := by
  show (match s σ h with | .nx σ1 h1 => t σ1 h1 | r => r) = _
  rw [e]
theorem def_ex {p n : Nat} {b : S} {vs : List AV} {h h1 : AH} {σ1 : AS} {x : AX} (hl : vs.length = p) (e : b (start n vs) h = .ex x σ1 h1) : mDef p n b vs h = .ex x h1 := by
  rw [z_mDef, if_pos hl, e]
theorem def_nx {p n : Nat} {b : S} {vs : List AV} {h h1 : AH} {σ1 : AS} (hl : vs.length = p) (e : b (start n vs) h = .nx σ1 h1) : mDef p n b vs h = .ok .non h1 := by
  rw [z_mDef, if_pos hl, e]
theorem ret_ok {x : E} {σ : AS} {h h1 : AH} {v : AV} (e : x σ h = .ok v h1) : sRet x σ h = .rt v h1 := by
  show (x σ h).st σ (fun v h1 => .rt v h1) = _
  rw [e]
  rfl
/-! ### keys -/
def AV.isKey (a : AV) : Bool := a.key1 || a.keyT
theorem key1_eqv {a b : AV} (ha : a.key1 = true) (hb : b.key1 = true) : a.eqv b = true ↔ a = b := by
  cases a <;> cases b <;> simp_all [AV.key1, AV.eqv]
theorem keys_eqv : ∀ {xs ys : List AV}, xs.all AV.key1 = true → ys.all AV.key1 = true → (AV.eqvs xs ys = true ↔ xs = ys)
  | [], [], _, _ => by simp [AV.eqvs]
  | [], _ :: _, _, _ => by simp [AV.eqvs]
  | _ :: _, [], _, _ => by simp [AV.eqvs]
  | x :: xs, y :: ys, h, g => by
    rw [List.all_cons, Bool.and_eq_true] at h g
    simp only [AV.eqvs, Bool.and_eq_true, key1_eqv h.1 g.1, keys_eqv h.2 g.2, List.cons.injEq]
theorem key_eqv {a b : AV} (ha : a.isKey = true) (hb : b.isKey = true) : a.eqv b = true ↔ a = b := by
  unfold AV.isKey at ha hb
  rw [Bool.or_eq_true] at ha hb
  rcases ha with ha | ha <;> rcases hb with hb | hb
  · exact key1_eqv ha hb
  · cases a <;> cases b <;> simp_all [AV.key1, AV.keyT, AV.eqv]
  · cases a <;> cases b <;> simp_all [AV.key1, AV.keyT, AV.eqv]
  · cases a with
    | tup xs =>
      cases b with
      | tup ys =>
        simp only [AV.eqv, keys_eqv ha hb, AV.tup.injEq]
      | _ => simp [AV.keyT] at hb
    | _ => simp [AV.keyT] at ha
abbrev KVs := List (AV × AV)
def keysOk (kvs : KVs) : Prop := ∀ kv ∈ kvs, kv.1.isKey = true
theorem look_nil (k : AV) : look [] k = none := rfl
theorem look_cons (a b k : AV) (r : KVs) : look ((a, b) :: r) k = if a.eqv k = true then some b else look r k := by
  unfold look
  rw [List.find?_cons]
  by_cases h : a.eqv k = true
  · rw [if_pos h, h]
    rfl
  · rw [if_neg h]
    simp only [Bool.not_eq_true] at h
    rw [h]
theorem look_snoc : ∀ (kvs : KVs) (a b k : AV), look (kvs ++ [(a, b)]) k = match look kvs k with | some v => some v | none => if a.eqv k = true then some b else none
  | [], a, b, k => by
    show look [(a, b)] k = _
    rw [look_cons]
    rfl
  | (x, y) :: r, a, b, k => by
    show look ((x, y) :: (r ++ [(a, b)])) k = _
    rw [look_cons, look_cons, look_snoc r]
    by_cases h : x.eqv k = true
    · rw [if_pos h, if_pos h]
    · rw [if_neg h, if_neg h]
theorem look_none {kvs : KVs} {k : AV} (h : (kvs.any fun kv => kv.1.eqv k) = false) : look kvs k = none := by
  induction kvs with
  | nil => rfl
  | cons p r ih =>
    obtain ⟨a, b⟩ := p
    rw [List.any_cons, Bool.or_eq_false_iff] at h
    rw [look_cons, if_neg (by rw [h.1]; decide)]
    exact ih h.2
theorem look_map {kvs : KVs} (hk : keysOk kvs) {k v k' : AV} (h : k.isKey = true) (h' : k'.isKey = true) (hm : (kvs.any fun kv => kv.1.eqv k) = true) : look (kvs.map fun kv => if kv.1.eqv k then (kv.1, v) else kv) k' = if k.eqv k' = true then some v else look kvs k' := by
  induction kvs with
  | nil => cases hm
  | cons p r ih =>
    obtain ⟨a, b⟩ := p
    have ha : a.isKey = true := hk (a, b) (by simp)
    have hr : keysOk r := fun kv q => hk kv (List.mem_cons_of_mem _ q)
    rw [List.map_cons]
    have nomap : (r.any fun kv => kv.1.eqv k) = false → r.map (fun kv => if kv.1.eqv k then (kv.1, v) else kv) = r := fun hn => by
      rw [List.any_eq_false] at hn
      conv => rhs; rw [← List.map_id r]
      exact List.map_congr_left fun kv q => by rw [if_neg (hn kv q)]; rfl
    by_cases e : a.eqv k = true
    · rw [if_pos e]
      have ea := (key_eqv ha h).mp e
      subst ea
      rw [look_cons, look_cons]
      by_cases e2 : a.eqv k' = true
      · rw [if_pos e2, if_pos e2]
      · rw [if_neg e2, if_neg e2, if_neg e2]
        by_cases hn : (r.any fun kv => kv.1.eqv a) = true
        · rw [ih hr hn, if_neg e2]
        · rw [nomap (by simpa using hn)]
    · rw [if_neg e, look_cons, look_cons]
      have hm' : (r.any fun kv => kv.1.eqv k) = true := by
        rw [List.any_cons, Bool.or_eq_true] at hm
        rcases hm with hm | hm
        · exact absurd hm e
        · exact hm
      by_cases e2 : a.eqv k' = true
      · have e3 := (key_eqv ha h').mp e2
        subst e3
        rw [if_pos e2, if_pos e2, if_neg fun z => e (by rw [(key_eqv h ha).mp z]; exact e2)]
      · rw [if_neg e2, if_neg e2]
        exact ih hr hm'
theorem look_put {kvs : KVs} (hk : keysOk kvs) {k v k' : AV} (h : k.isKey = true) (h' : k'.isKey = true) : look (put kvs k v) k' = if k.eqv k' = true then some v else look kvs k' := by
  unfold put
  by_cases hm : (kvs.any fun kv => kv.1.eqv k) = true
  · rw [if_pos hm]
    exact look_map hk h h' hm
  · rw [if_neg hm, look_snoc]
    by_cases e : k.eqv k' = true
    · rw [if_pos e]
      have e3 := (key_eqv h h').mp e
      subst e3
      rw [look_none (by simpa using hm), if_pos e]
    · rw [if_neg e, if_neg e]
      cases look kvs k' <;> rfl
theorem put_len (kvs : KVs) (k v : AV) : (put kvs k v).length ≤ kvs.length + 1 := by
  unfold put
  split
  · simp
  · simp
theorem put_keys {kvs : KVs} (hk : keysOk kvs) {k v : AV} (h : k.isKey = true) : keysOk (put kvs k v) := by
  unfold put
  split
  · intro kv q
    obtain ⟨x, hx, rfl⟩ := List.mem_map.mp q
    split
    · exact hk x hx
    · exact hk x hx
  · intro kv q
    rcases List.mem_append.mp q with q | q
    · exact hk kv q
    · simp at q
      subst q
      exact h
/-! ### the heap's end -/
section
variable {α : Type} (h : List α) (x y z : α) (r : List α)
@[simp] theorem get_app0 : (h ++ x :: r)[h.length]? = some x := by simp
@[simp] theorem get_app1 : (h ++ x :: y :: r)[h.length + 1]? = some y := by simp
@[simp] theorem set_app0 : (h ++ x :: r).set h.length z = h ++ z :: r := by simp
@[simp] theorem set_app1 : (h ++ x :: y :: r).set (h.length + 1) z = h ++ x :: z :: r := by simp
end
/-! ### loops -/
/-- a loop that goes on or returns -/
theorem forL_ret {g : G} {b : S} (I : Nat → AS → AH → Prop) (R : AV → AH → Prop) : ∀ (xs : List AV) (k : Nat) (σ : AS) (h : AH), I k σ h →
    (∀ (i : Nat) (x : AV) (σ : AS) (h : AH), xs[i]? = some x → I (k + i) σ h → ∃ σ1 h1, g x σ h = some (σ1, h1) ∧ ((∃ σ2 h2, (b σ1 h1 = .nx σ2 h2 ∨ b σ1 h1 = .ct σ2 h2) ∧ I (k + i + 1) σ2 h2) ∨ ∃ v h2, b σ1 h1 = .rt v h2 ∧ R v h2)) →
    (∃ σ' h', forL g b xs σ h = .nx σ' h' ∧ I (k + xs.length) σ' h') ∨ ∃ v h', forL g b xs σ h = .rt v h' ∧ R v h'
  | [], k, σ, h, h0, _ => .inl ⟨σ, h, rfl, by simpa using h0⟩
  | x :: xs, k, σ, h, h0, st => by
    obtain ⟨σ1, h1, e1, e2⟩ := st 0 x σ h rfl (by simpa using h0)
    rcases e2 with ⟨σ2, h2, e2, i2⟩ | ⟨v, h2, e2, r2⟩
    · have := forL_ret I R xs (k + 1) σ2 h2 (by simpa using i2) fun i y σ h hi hI => by
        obtain ⟨a, b', q1, q2⟩ := st (i + 1) y σ h (by simpa using hi) (by rw [show k + (i + 1) = k + 1 + i by omega]; exact hI)
        exact ⟨a, b', q1, by rw [show k + 1 + i + 1 = k + (i + 1) + 1 by omega]; exact q2⟩
      rcases this with ⟨σ', h', e3, i3⟩ | ⟨v, h', e3, i3⟩
      · refine .inl ⟨σ', h', ?_, by simpa [Nat.add_assoc, Nat.add_comm 1] using i3⟩
        unfold forL
        rw [e1]
        dsimp only
        rcases e2 with e2 | e2 <;> rw [e2] <;> exact e3
      · refine .inr ⟨v, h', ?_, i3⟩
        unfold forL
        rw [e1]
        dsimp only
        rcases e2 with e2 | e2 <;> rw [e2] <;> exact e3
    · refine .inr ⟨v, h2, ?_, r2⟩
      unfold forL
      rw [e1]
      dsimp only
      rw [e2]
theorem whileF_run {c : T} {b : S} (I : Nat → AS → AH → Prop) (F : AS → AH → Prop) (K : Nat)
    (st : ∀ (i : Nat) (σ : AS) (h : AH), i < K → I i σ h → ∃ h1 σ2 h2, c σ h = .ok true h1 ∧ (b σ h1 = .nx σ2 h2 ∨ b σ h1 = .ct σ2 h2) ∧ I (i + 1) σ2 h2)
    (fin : ∀ (σ : AS) (h : AH), I K σ h → ∃ h1, c σ h = .ok false h1 ∧ F σ h1) : ∀ (fuel i : Nat) (σ : AS) (h : AH), i ≤ K → K - i < fuel → I i σ h → ∃ σ' h', whileF c b fuel σ h = .nx σ' h' ∧ F σ' h'
  | 0, i, σ, h, _, hf, _ => by omega
  | f + 1, i, σ, h, hi, hf, hI => by
    by_cases e : i = K
    · subst e
      obtain ⟨h1, e1, e2⟩ := fin σ h hI
      exact ⟨σ, h1, by unfold whileF; rw [e1]; rfl, e2⟩
    · obtain ⟨h1, σ2, h2, e1, e2, e3⟩ := st i σ h (by omega) hI
      obtain ⟨σ', h', e4, e5⟩ := whileF_run I F K st fin f (i + 1) σ2 h2 (by omega) (by omega) e3
      refine ⟨σ', h', ?_, e5⟩
      unfold whileF
      rw [e1]
      simp only [Res.st_ok, if_true]
      rcases e2 with e2 | e2 <;> rw [e2] <;> exact e4
/-- nothing is taken -/
theorem lcL_none {g : G} {t : T} {e : E} {σ : AS} {h : AH} : ∀ (xs : List AV) (acc : List AV), (∀ x ∈ xs, ∃ σ1, g x σ h = some (σ1, h) ∧ t σ1 h = .ok false h) → lcL g t e σ xs acc h = .ok acc h
  | [], acc, _ => rfl
  | x :: xs, acc, st => by
    obtain ⟨σ1, e1, e2⟩ := st x (by simp)
    unfold lcL
    rw [e1]
    dsimp only
    rw [e2]
    simp only [Res.bind_ok, Bool.false_eq_true, if_false]
    exact lcL_none xs acc fun y hy => st y (List.mem_cons_of_mem _ hy)
/-- each is taken, the heap stays -/
theorem lcL_map {g : G} {t : T} {e : E} {σ : AS} {h : AH} {f : AV → AV} : ∀ (xs : List AV) (acc : List AV), acc.length + xs.length ≤ LINE → (∀ x ∈ xs, ∃ σ1, g x σ h = some (σ1, h) ∧ t σ1 h = .ok true h ∧ e σ1 h = .ok (f x) h) → lcL g t e σ xs acc h = .ok (acc ++ xs.map f) h
  | [], acc, _, _ => by simp
  | x :: xs, acc, hl, st => by
    obtain ⟨σ1, e1, e2, e3⟩ := st x (by simp)
    simp only [List.length_cons] at hl
    unfold lcL
    rw [e1]
    dsimp only
    rw [e2]
    simp only [Res.bind_ok, if_true]
    rw [if_pos (by omega), e3]
    simp only [Res.bind_ok]
    rw [lcL_map xs (acc ++ [f x]) (by simp only [List.length_append, List.length_cons, List.length_nil]; omega) fun y hy => st y (List.mem_cons_of_mem _ hy)]
    simp
/-- each is taken, the heap grows -/
theorem lcL_grow {g : G} {t : T} {e : E} {σ : AS} {f : AV → AV} {h0 : AH} : ∀ (xs : List AV) (acc : List AV) (u : AH), acc.length + xs.length ≤ LINE → (∀ x ∈ xs, ∀ u : AH, ∃ σ1 u', g x σ (h0 ++ u) = some (σ1, h0 ++ u) ∧ t σ1 (h0 ++ u) = .ok true (h0 ++ u) ∧ e σ1 (h0 ++ u) = .ok (f x) (h0 ++ u')) → ∃ u', lcL g t e σ xs acc (h0 ++ u) = .ok (acc ++ xs.map f) (h0 ++ u')
  | [], acc, u, _, _ => ⟨u, by simp⟩
  | x :: xs, acc, u, hl, st => by
    obtain ⟨σ1, u1, e1, e2, e3⟩ := st x (by simp) u
    simp only [List.length_cons] at hl
    obtain ⟨u2, e4⟩ := lcL_grow (g := g) (t := t) (e := e) (σ := σ) (f := f) (h0 := h0) xs (acc ++ [f x]) u1 (by simp only [List.length_append, List.length_cons, List.length_nil]; omega) fun y hy => st y (List.mem_cons_of_mem _ hy)
    refine ⟨u2, ?_⟩
    unfold lcL
    rw [e1]
    dsimp only
    rw [e2]
    simp only [Res.bind_ok, if_true]
    rw [if_pos (by omega), e3]
    simp only [Res.bind_ok]
    rw [e4]
    simp
def onInt (f : Int → AV) : AV → AV
  | .int i => f i
  | _ => .non
@[simp] theorem onInt_int (f : Int → AV) (i : Int) : onInt f (.int i) = f i := rfl
theorem rng_map (n : Nat) (f : Int → AV) : (rng 0 n).map (onInt f) = (List.range n).map fun (i : Nat) => f i := by
  unfold rng
  rw [List.map_map]
  exact List.map_congr_left fun i _ => by simp [onInt]
theorem mem_rng {n : Nat} {x : AV} (h : x ∈ rng 0 n) : ∃ i : Nat, i < n ∧ x = .int i := by
  unfold rng at h
  obtain ⟨i, hi, rfl⟩ := List.mem_map.mp h
  exact ⟨i, List.mem_range.mp hi, by simp⟩
theorem lcL_rng {g : G} {t : T} {e : E} {σ : AS} {h : AH} (f : Nat → AV) (n : Nat) (hl : n ≤ LINE) (st : ∀ i, i < n → ∃ σ1, g (.int (i : Int)) σ h = some (σ1, h) ∧ t σ1 h = .ok true h ∧ e σ1 h = .ok (f i) h) : lcL g t e σ (rng 0 n) [] h = .ok ((List.range n).map f) h := by
  have := lcL_map (g := g) (t := t) (e := e) (σ := σ) (h := h) (f := onInt fun i => f i.toNat) (rng 0 n) [] (by simp only [List.length_nil, rng_len]; omega) fun x hx => by
    obtain ⟨i, hi, rfl⟩ := mem_rng hx
    exact st i hi
  rw [rng_map n fun i => f i.toNat, List.nil_append] at this
  exact this
theorem lcL_rngG {g : G} {t : T} {e : E} {σ : AS} {h0 : AH} (f : Nat → AV) (n : Nat) (hl : n ≤ LINE) (st : ∀ i, i < n → ∀ u : AH, ∃ σ1 u', g (.int (i : Int)) σ (h0 ++ u) = some (σ1, h0 ++ u) ∧ t σ1 (h0 ++ u) = .ok true (h0 ++ u) ∧ e σ1 (h0 ++ u) = .ok (f i) (h0 ++ u')) : ∃ u, lcL g t e σ (rng 0 n) [] h0 = .ok ((List.range n).map f) (h0 ++ u) := by
  obtain ⟨u, this⟩ := lcL_grow (g := g) (t := t) (e := e) (σ := σ) (h0 := h0) (f := onInt fun i => f i.toNat) (rng 0 n) [] [] (by simp only [List.length_nil, rng_len]; omega) fun x hx => by
    obtain ⟨i, hi, rfl⟩ := mem_rng hx
    exact st i hi
  rw [rng_map n fun i => f i.toNat, List.nil_append, List.append_nil] at this
  exact ⟨u, this⟩
/-! ### tuples, lists -/
theorem in_tup {x : AV} {ys : List AV} {h : AH} (hx : x.flat = true) (ha : ys.all AV.flat = true) : oIn x (.tup ys) h = .ok (.bl (ys.any fun y => y.eqv x)) h := by
  have : (x.flat && ys.all AV.flat) = true := by rw [hx, ha]; rfl
  unfold oIn
  simp only [this, if_true]
theorem in_lst {x : AV} {ys : List AV} {h : AH} (hx : x.flat = true) (ha : ys.all AV.flat = true) : oIn x (.lst ys) h = .ok (.bl (ys.any fun y => y.eqv x)) h := by
  have : (x.flat && ys.all AV.flat) = true := by rw [hx, ha]; rfl
  unfold oIn
  simp only [this, if_true]
theorem lstOf_app {h u : AH} {v : AV} {xs : List AV} (e : lstOf h v = some xs) : lstOf (h ++ u) v = some xs := by
  cases v with
  | lst ys => exact e
  | cel n =>
    simp only [lstOf] at e ⊢
    cases z : h[n]? with
    | none => rw [z] at e; cases e
    | some o =>
      rw [z] at e
      rw [List.getElem?_append_left (List.getElem?_eq_some_iff.mp z).1, z]
      exact e
  | _ => cases e
theorem seqOf_of {h : AH} {v : AV} {xs : List AV} (e : lstOf h v = some xs) : seqOf h v = some xs := by
  cases v with
  | lst ys => exact e
  | cel n => exact e
  | _ => cases e
theorem lst_cases {h : AH} {v : AV} {xs : List AV} (e : lstOf h v = some xs) : v = .lst xs ∨ ∃ n, v = .cel n ∧ h[n]? = some (.lst xs) := by
  cases v with
  | lst ys => cases e; exact .inl rfl
  | cel n =>
    simp only [lstOf] at e
    split at e
    · rename_i ys z
      cases e
      exact .inr ⟨n, rfl, z⟩
    · cases e
  | _ => cases e
theorem ix_lst {h : AH} {v : AV} {xs : List AV} (e : lstOf h v = some xs) (i : Int) : oIx v (.int i) h = match atI xs i with | some v => .ok v h | none => .no := by
  rcases lst_cases e with rfl | ⟨n, rfl, z⟩
  · rfl
  · rw [z_ixC, z]
    try rfl
theorem sl_lst {h : AH} {v : AV} {xs : List AV} (e : lstOf h v = some xs) (lo hi : Option Int) : oSl v lo hi h = .ok (.lst (cut xs lo hi)) h := by
  rcases lst_cases e with rfl | ⟨n, rfl, z⟩
  · rfl
  · simp [oSl, e]
theorem len_lst {h : AH} {v : AV} {xs : List AV} (e : lstOf h v = some xs) : cLen [v] h = .ok (.int xs.length) h := by
  rcases lst_cases e with rfl | ⟨n, rfl, z⟩
  · rfl
  · rw [z_lenC, z]
theorem flatten_lst {h : AH} {v : AV} {xs : List AV} (e : lstOf h v = some xs) : flatten h v = .lst xs := by
  rcases lst_cases e with rfl | ⟨n, rfl, z⟩
  · rfl
  · simp [flatten, z]
theorem eq_lst {h : AH} {v w : AV} {xs ys : List AV} (e : lstOf h v = some xs) (f : lstOf h w = some ys) (hx : AV.fitss 59 xs = true) (hy : AV.fitss 59 ys = true) : oEq v w h = .ok (.bl (AV.eqvs xs ys)) h := by
  have e1 := flatten_lst e
  have e2 := flatten_lst f
  unfold oEq
  split
  · rcases lst_cases e with z | ⟨n, z, _⟩ <;> cases z
  · rw [e1, e2]
    simp only [AV.fits, AV.eqv, hx, hy, Bool.and_self, if_true]
theorem fitss_ints (d : Nat) (l : List Int) : AV.fitss d (l.map AV.int) = true := by
  induction l with
  | nil => cases d <;> rfl
  | cons a l ih =>
    rw [List.map_cons]
    simp only [AV.fitss, ih, Bool.and_true]
    cases d <;> rfl
theorem eqvs_ints : ∀ (l m : List Int), AV.eqvs (l.map AV.int) (m.map AV.int) = decide (l = m)
  | [], [] => by simp [AV.eqvs]
  | [], _ :: _ => by simp [AV.eqvs]
  | _ :: _, [] => by simp [AV.eqvs]
  | a :: l, b :: m => by
    simp only [List.map_cons, AV.eqvs, AV.eqv, eqvs_ints l m]
    rw [Bool.eq_iff_iff]
    simp
theorem atI_neg1 {α : Type} {xs : List α} (h : 0 < xs.length) : atI xs (-1) = xs[xs.length - 1]? := by
  unfold atI atN
  rw [if_neg (by decide), if_pos (by omega)]
  simp only [Option.bind_some]
  congr 1
  omega
theorem rangeMap_get {f : Nat → AV} {n i : Nat} (h : i < n) : ((List.range n).map f)[i]? = some (f i) := by
  rw [List.getElem?_map, List.getElem?_range h]
  rfl
theorem rangeMap_rev (f : Nat → AV) (n : Nat) : ((List.range n).map f).reverse = (List.range n).map fun i => f (n - 1 - i) := by
  apply List.ext_getElem
  · simp
  · intro i h1 h2
    simp
theorem rangeMap_set {f g : Nat → AV} {n j : Nat} {x : AV} (hx : g j = x) (hg : ∀ i, i < n → i ≠ j → g i = f i) : ((List.range n).map f).set j x = (List.range n).map g := by
  apply List.ext_getElem
  · simp
  · intro i h1 h2
    simp at h1
    rw [List.getElem_set]
    simp only [List.getElem_map, List.getElem_range]
    split
    · rename_i e
      rw [← e, hx]
    · rename_i e
      exact (hg i (by simpa using h1) (Ne.symm e)).symm
theorem rangeMap_congr {f g : Nat → AV} {n : Nat} (h : ∀ i, i < n → f i = g i) : (List.range n).map f = (List.range n).map g := List.map_congr_left fun i hi => h i (List.mem_range.mp hi)
theorem atN_nat {n i : Nat} (h : i < n) : atN n (i : Int) = some i := by
  unfold atN
  rw [if_pos (by omega), if_pos (by omega)]
  rfl
@[simp] theorem z_tupleT (xs : List AV) (h : AH) : cTuple [.tup xs] h = .ok (.tup xs) h := rfl
@[simp] theorem z_tupleL (xs : List AV) (h : AH) : cTuple [.lst xs] h = .ok (.tup xs) h := rfl
theorem z_tupleC {n : Nat} {xs : List AV} {h : AH} (e : h[n]? = some (.lst xs)) : cTuple [.cel n] h = .ok (.tup xs) h := by
  simp [cTuple, lstOf, e]
theorem z_revC {n : Nat} {xs : List AV} {h : AH} (e : h[n]? = some (.lst xs)) : oRev (.cel n) h = .ok (.lst xs.reverse) h := by
  simp [oRev, oRev.seqL, lstOf, e]
end Mi

end

section
set_option maxHeartbeats 4000000
/-! MiDraw: draws in comprehensions; popping. -/
namespace MiL
open Mi
/-- a comprehension whose items are drawn; the heap's tail may grow -/
theorem lcL_dr {g : G} {t : T} {e : E} {σ : AS} (P : AV → Prop) (t0 : AH) : ∀ (xs : List AV) (acc : List AV) (c : HC) (u : AH), Dr c → acc.length + xs.length ≤ 16777216 →
    (∀ x ∈ xs, ∀ (c : HC) (u : AH), Dr c → ∃ σ1 y c' u', g x σ (c :: (t0 ++ u)) = some (σ1, c :: (t0 ++ u)) ∧ t σ1 (c :: (t0 ++ u)) = .ok true (c :: (t0 ++ u)) ∧ e σ1 (c :: (t0 ++ u)) = .ok y (c' :: (t0 ++ u')) ∧ Dr c' ∧ P y) →
    ∃ ys c' u', lcL g t e σ xs acc (c :: (t0 ++ u)) = .ok (acc ++ ys) (c' :: (t0 ++ u')) ∧ Dr c' ∧ ys.length = xs.length ∧ ∀ y ∈ ys, P y
  | [], acc, c, u, hd, _, _ => ⟨[], c, u, by simp, hd, rfl, by simp⟩
  | x :: xs, acc, c, u, hd, hl, st => by
    obtain ⟨σ1, y, c1, u1, e1, e2, e3, hd1, py⟩ := st x (by simp) c u hd
    simp only [List.length_cons] at hl
    obtain ⟨ys, c2, u2, e4, hd2, l2, p2⟩ := lcL_dr P t0 xs (acc ++ [y]) c1 u1 hd1 (by simp only [List.length_append, List.length_cons, List.length_nil]; omega) fun z hz => st z (List.mem_cons_of_mem _ hz)
    refine ⟨y :: ys, c2, u2, ?_, hd2, by simp [l2], fun z hz => ?_⟩
    · unfold lcL
      rw [e1]
      dsimp only
      rw [e2]
      simp only [Res.bind_ok, if_true]
      rw [if_pos (by rw [line_is]; omega), e3]
      simp only [Res.bind_ok]
      rw [e4]
      simp
    · rcases List.mem_cons.mp hz with rfl | hz
      · exact py
      · exact p2 z hz
/-- the same without growth -/
theorem lcL_dr0 {g : G} {t : T} {e : E} {σ : AS} (P : AV → Prop) (t0 : AH) (xs : List AV) (c : HC) (hd : Dr c) (hl : xs.length ≤ 16777216)
    (st : ∀ x ∈ xs, ∀ (c : HC), Dr c → ∃ σ1 y c', g x σ (c :: t0) = some (σ1, c :: t0) ∧ t σ1 (c :: t0) = .ok true (c :: t0) ∧ e σ1 (c :: t0) = .ok y (c' :: t0) ∧ Dr c' ∧ P y) :
    ∃ ys c', lcL g t e σ xs [] (c :: t0) = .ok ys (c' :: t0) ∧ Dr c' ∧ ys.length = xs.length ∧ ∀ y ∈ ys, P y := by
  have key : ∀ (xs : List AV) (acc : List AV) (c : HC), Dr c → acc.length + xs.length ≤ 16777216 → (∀ x ∈ xs, ∀ (c : HC), Dr c → ∃ σ1 y c', g x σ (c :: t0) = some (σ1, c :: t0) ∧ t σ1 (c :: t0) = .ok true (c :: t0) ∧ e σ1 (c :: t0) = .ok y (c' :: t0) ∧ Dr c' ∧ P y) →
      ∃ ys c', lcL g t e σ xs acc (c :: t0) = .ok (acc ++ ys) (c' :: t0) ∧ Dr c' ∧ ys.length = xs.length ∧ ∀ y ∈ ys, P y := by
    intro xs
    induction xs with
    | nil => exact fun acc c hd _ _ => ⟨[], c, by simp, hd, rfl, by simp⟩
    | cons x xs ih =>
      intro acc c hd hl st
      obtain ⟨σ1, y, c1, e1, e2, e3, hd1, py⟩ := st x (by simp) c hd
      simp only [List.length_cons] at hl
      obtain ⟨ys, c2, e4, hd2, l2, p2⟩ := ih (acc ++ [y]) c1 hd1 (by simp only [List.length_append, List.length_cons, List.length_nil]; omega) fun z hz => st z (List.mem_cons_of_mem _ hz)
      refine ⟨y :: ys, c2, ?_, hd2, by simp [l2], fun z hz => ?_⟩
      · unfold lcL
        rw [e1]
        dsimp only
        rw [e2]
        simp only [Res.bind_ok, if_true]
        rw [if_pos (by rw [line_is]; omega), e3]
        simp only [Res.bind_ok]
        rw [e4]
        simp
      · rcases List.mem_cons.mp hz with rfl | hz
        · exact py
        · exact p2 z hz
  exact key xs [] c hd (by simpa using hl) st
theorem mem_erase_or {α : Type} {l : List α} {i : Nat} {x y : α} (hy : l[i]? = some y) (hx : x ∈ l) : x = y ∨ x ∈ l.eraseIdx i := by
  induction l generalizing i with
  | nil => cases hx
  | cons a l ih =>
    cases i with
    | zero =>
      simp at hy
      subst hy
      rcases List.mem_cons.mp hx with h | h
      · exact .inl h
      · exact .inr h
    | succ i =>
      rcases List.mem_cons.mp hx with h | h
      · exact .inr (by rw [h]; simp)
      · rcases ih (by simpa using hy) h with h | h
        · exact .inl h
        · exact .inr (by simp [h])
/-- one of a list in the cell n + 1 is taken out -/
theorem popAt_ok {c : HC} {t : AH} {n : Nat} {xs : List AV} {r : Int} {x : AV} (hn : t[n]? = some (.lst xs)) (r0 : 0 ≤ r) (hx : xs[r.toNat]? = some x) : mPopAt (.cel (n + 1)) (.int r) (c :: t) = .ok x (c :: t.set n (.lst (xs.eraseIdx r.toNat))) := by
  have hl := (List.getElem?_eq_some_iff.mp hx).1
  unfold mPopAt
  simp only [List.getElem?_cons_succ, hn]
  have : atN xs.length r = some r.toNat := by
    unfold atN
    rw [if_pos r0, if_pos (by omega)]
  rw [this]
  simp only [hx, List.set_cons_succ]
end MiL

end

section
set_option maxHeartbeats 4000000
/-! MiNum: whole numbers as figures. -/
namespace Mi
@[elab_as_elim] theorem revInd {α : Type} {P : List α → Prop} (nil : P []) (append_singleton : ∀ l a, P l → P (l ++ [a])) : ∀ l, P l := fun l => by
  rw [← List.reverse_reverse l]
  induction l.reverse with
  | nil => exact nil
  | cons a l ih =>
    rw [List.reverse_cons]
    exact append_singleton _ a ih
theorem digitChar_nat {d : Nat} (h : d < 10) : (Nat.digitChar d).toNat = 48 + d := by
  have : ∀ d : Fin 10, (Nat.digitChar d.val).toNat = 48 + d.val := by decide
  exact this ⟨d, h⟩
theorem numL_lt {n : Nat} (h : n < 10) : numL n = [48 + n] := by
  unfold numL
  rw [Nat.toDigits_of_lt_base h]
  simp [digitChar_nat h]
theorem numL_ge {n : Nat} (h : 10 ≤ n) : numL n = numL (n / 10) ++ [48 + n % 10] := by
  unfold numL
  rw [Nat.toDigits_of_base_le (by decide) h]
  simp [digitChar_nat (Nat.mod_lt n (by decide : 10 > 0))]
def isD (c : Nat) : Bool := decide (48 ≤ c) && decide (c ≤ 57)
theorem isD_iff {c : Nat} : isD c = true ↔ 48 ≤ c ∧ c ≤ 57 := by simp [isD]
/-- figures without a needless 0 ahead -/
def canon (l : List Nat) : Prop := l = [48] ∨ (∃ c r, l = c :: r ∧ c ≠ 48) ∧ ∀ c ∈ l, isD c = true
theorem numL_ne (n : Nat) : numL n ≠ [] := by
  by_cases h : n < 10
  · rw [numL_lt h]; simp
  · rw [numL_ge (by omega)]; simp
theorem numL_dig (n : Nat) : ∀ c ∈ numL n, isD c = true := by
  induction n using Nat.strongRecOn with
  | ind n ih =>
    intro c hc
    by_cases h : n < 10
    · rw [numL_lt h] at hc
      simp at hc
      rw [isD_iff]
      omega
    · rw [numL_ge (by omega)] at hc
      rcases List.mem_append.mp hc with hc | hc
      · exact ih (n / 10) (by omega) c hc
      · simp at hc
        rw [isD_iff]
        omega
theorem numOf_snoc (l : List Nat) (c : Nat) : numOf (l ++ [c]) = numOf l * 10 + (c - 48) := by
  unfold numOf
  rw [List.foldl_append]
  rfl
theorem numOf_numL (n : Nat) : numOf (numL n) = n := by
  induction n using Nat.strongRecOn with
  | ind n ih =>
    by_cases h : n < 10
    · rw [numL_lt h]
      simp [numOf]
    · rw [numL_ge (by omega), numOf_snoc, ih (n / 10) (by omega)]
      omega
theorem numL_head (n : Nat) (h : 0 < n) : ∃ c r, numL n = c :: r ∧ c ≠ 48 := by
  induction n using Nat.strongRecOn with
  | ind n ih =>
    by_cases hl : n < 10
    · exact ⟨48 + n, [], numL_lt hl, by omega⟩
    · obtain ⟨c, r, e, hc⟩ := ih (n / 10) (by omega) (by omega)
      exact ⟨c, r ++ [48 + n % 10], by rw [numL_ge (by omega), e]; rfl, hc⟩
theorem numL_canon (n : Nat) : canon (numL n) := by
  by_cases h : n = 0
  · subst h
    exact .inl (numL_lt (by decide))
  · obtain ⟨c, r, e, hc⟩ := numL_head n (by omega)
    exact .inr ⟨⟨c, r, e, hc⟩, numL_dig n⟩
/-- at most k figures -/
theorem numL_len {n k : Nat} (hk : 0 < k) : (numL n).length ≤ k ↔ n < 10 ^ k := by
  unfold numL
  rw [List.length_map]
  exact Nat.length_toDigits_le_iff (by decide) hk
theorem numOf_pos : ∀ (l : List Nat), l ≠ [] → (∀ c ∈ l, isD c = true) → (∃ c r, l = c :: r ∧ c ≠ 48) → 0 < numOf l := by
  intro l
  induction l using revInd with
  | nil => exact fun h => absurd rfl h
  | append_singleton l d ih =>
    intro _ hd hc
    rw [numOf_snoc]
    by_cases hl : l = []
    · subst hl
      obtain ⟨c, r, e, hc⟩ := hc
      simp at e
      have := isD_iff.mp (hd d (by simp))
      omega
    · obtain ⟨c, r, e, hc⟩ := hc
      cases l with
      | nil => exact absurd rfl hl
      | cons a l =>
        have e1 : a = c := by
          have := congrArg List.head? e
          simpa using this
        have := ih hl (fun x hx => hd x (List.mem_append_left _ hx)) ⟨a, l, rfl, by rw [e1]; exact hc⟩
        omega
theorem numL_numOf : ∀ (l : List Nat), canon l → numL (numOf l) = l := by
  intro l h
  rcases h with rfl | ⟨hc, hd⟩
  · exact numL_lt (by decide)
  · induction l using revInd with
    | nil =>
      obtain ⟨c, r, e, _⟩ := hc
      cases e
    | append_singleton l d ih =>
      have hdd := isD_iff.mp (hd d (by simp))
      rw [numOf_snoc]
      by_cases hl : l = []
      · subst hl
        have : numOf [] = 0 := rfl
        rw [this, numL_lt (by omega)]
        simp
        omega
      · obtain ⟨c, r, e, hc⟩ := hc
        cases l with
        | nil => exact absurd rfl hl
        | cons a l =>
          have e1 : a = c := by
            have := congrArg List.head? e
            simpa using this
          have hd' : ∀ x ∈ a :: l, isD x = true := fun x hx => hd x (List.mem_append_left _ hx)
          have hc' : ∃ c r, a :: l = c :: r ∧ c ≠ 48 := ⟨a, l, rfl, by rw [e1]; exact hc⟩
          have h1 := ih hc' hd'
          have h2 := numOf_pos (a :: l) (by simp) hd' hc'
          rw [numL_ge (by omega)]
          have e2 : (numOf (a :: l) * 10 + (d - 48)) / 10 = numOf (a :: l) := by omega
          have e3 : (numOf (a :: l) * 10 + (d - 48)) % 10 = d - 48 := by omega
          rw [e2, e3, h1]
          congr 2
          omega
theorem digs_iff {l : List Nat} : digs l = true ↔ l ≠ [] ∧ ∀ c ∈ l, isD c = true := by
  unfold digs
  cases l with
  | nil => simp
  | cons a l => simp [isD]
theorem canon_digs {l : List Nat} (h : canon l) : digs l = true := by
  rw [digs_iff]
  rcases h with rfl | ⟨⟨c, r, e, _⟩, hd⟩
  · exact ⟨by simp, by simp [isD]⟩
  · exact ⟨by rw [e]; simp, hd⟩
theorem intOf_num {l : List Nat} (h : digs l = true) : intOf l = some ((numOf l : Nat) : Int) := by
  unfold intOf
  split
  · rename_i r
    have := (digs_iff.mp h).2 45 (by simp)
    simp [isD] at this
  · rw [if_pos h]
theorem intOf_neg {l : List Nat} (h : digs l = true) : intOf (45 :: l) = some (-((numOf l : Nat) : Int)) := by
  show (if digs l = true then some (-((numOf l : Nat) : Int)) else none) = _
  rw [if_pos h]
theorem intL_nat (n : Nat) : intL (n : Int) = numL n := by
  unfold intL
  rw [if_neg (by omega)]
  rfl
theorem intL_neg {n : Nat} (h : 0 < n) : intL (-(n : Int)) = 45 :: numL n := by
  unfold intL
  rw [if_pos (by omega)]
  congr
  omega
theorem intOf_intL (i : Int) : intOf (intL i) = some i := by
  by_cases h : i < 0
  · obtain ⟨n, hn, rfl⟩ : ∃ n : Nat, 0 < n ∧ i = -(n : Int) := ⟨i.natAbs, by omega, by omega⟩
    rw [intL_neg hn, intOf_neg (canon_digs (numL_canon n)), numOf_numL]
  · obtain ⟨n, rfl⟩ := Int.eq_ofNat_of_zero_le (show 0 ≤ i by omega)
    rw [intL_nat, intOf_num (canon_digs (numL_canon n)), numOf_numL]
theorem pow30 : (10 : Nat) ^ 30 = 1000000000000000000000000000000 := by decide
end Mi

end

section
set_option maxHeartbeats 4000000
/-! MiStk: a list of lists that are changed: a stack of cells. The heap is h0 ++ u, the stack stands in u. -/
namespace Mi
def RowsAt (u : AH) : List Nat → List (List AV) → Prop
  | [], [] => True
  | a :: as, T :: R => u[a]? = some (.lst T) ∧ RowsAt u as R
  | _, _ => False
/-- the stack stands in the cell r of u; R: its rows, the top one first -/
def Stk (n0 : Nat) (u : AH) (r : Nat) (R : List (List AV)) : Prop := ∃ as : List Nat, u[r]? = some (.lst (as.map fun a => AV.cel (n0 + a)).reverse) ∧ (r :: as).Nodup ∧ RowsAt u as R
theorem RowsAt.len {u : AH} : ∀ {as : List Nat} {R : List (List AV)}, RowsAt u as R → as.length = R.length
  | [], [], _ => rfl
  | a :: as, T :: R, h => by simp [RowsAt.len h.2]
  | [], _ :: _, h => h.elim
  | _ :: _, [], h => h.elim
theorem RowsAt.bd {u : AH} : ∀ {as : List Nat} {R : List (List AV)}, RowsAt u as R → ∀ a ∈ as, a < u.length
  | [], [], _, a, ha => by cases ha
  | b :: as, T :: R, h, a, ha => by
    rcases List.mem_cons.mp ha with rfl | ha
    · exact (List.getElem?_eq_some_iff.mp h.1).1
    · exact RowsAt.bd h.2 a ha
  | [], _ :: _, h, _, _ => h.elim
  | _ :: _, [], h, _, _ => h.elim
theorem RowsAt.set {u : AH} {k : Nat} {x : HC} : ∀ {as : List Nat} {R : List (List AV)}, RowsAt u as R → k ∉ as → RowsAt (u.set k x) as R
  | [], [], _, _ => trivial
  | a :: as, T :: R, h, hk => by
    simp only [List.mem_cons, not_or] at hk
    exact ⟨by rw [List.getElem?_set_ne hk.1]; exact h.1, RowsAt.set h.2 hk.2⟩
  | [], _ :: _, h, _ => h.elim
  | _ :: _, [], h, _ => h.elim
theorem RowsAt.app {u w : AH} : ∀ {as : List Nat} {R : List (List AV)}, RowsAt u as R → RowsAt (u ++ w) as R
  | [], [], _ => trivial
  | a :: as, T :: R, h => ⟨by rw [List.getElem?_append_left (List.getElem?_eq_some_iff.mp h.1).1]; exact h.1, RowsAt.app h.2⟩
  | [], _ :: _, h => h.elim
  | _ :: _, [], h => h.elim
section
variable {h0 u : AH} {r : Nat} {R : List (List AV)} {T : List AV}
theorem get_rel (h0 u : AH) (a : Nat) : (h0 ++ u)[h0.length + a]? = u[a]? := by
  rw [List.getElem?_append_right (by omega)]
  congr 1
  omega
theorem set_rel (h0 u : AH) (a : Nat) (x : HC) : (h0 ++ u).set (h0.length + a) x = h0 ++ u.set a x := by
  rw [List.set_append_right _ _ (by omega)]
  congr 2
  omega
theorem Stk.more (s : Stk h0.length u r R) (w : AH) : Stk h0.length (u ++ w) r R := by
  obtain ⟨as, h1, h2, h3⟩ := s
  exact ⟨as, by rw [List.getElem?_append_left (List.getElem?_eq_some_iff.mp h1).1]; exact h1, h2, h3.app⟩
theorem Stk.ty (s : Stk h0.length u r R) : tyA "list" (h0 ++ u) (.cel (h0.length + r)) = true := by
  obtain ⟨as, h1, h2, h3⟩ := s
  unfold tyA
  simp only [get_rel, h1]
  rfl
theorem Stk.len (s : Stk h0.length u r R) : cLen [.cel (h0.length + r)] (h0 ++ u) = .ok (.int R.length) (h0 ++ u) := by
  obtain ⟨as, h1, h2, h3⟩ := s
  rw [z_lenC, get_rel, h1]
  simp [h3.len]
/-- the top row's cell -/
theorem Stk.top (s : Stk h0.length u r (T :: R)) : ∃ a, oIx (.cel (h0.length + r)) (.int (-1)) (h0 ++ u) = .ok (.cel (h0.length + a)) (h0 ++ u) ∧ tyA "list" (h0 ++ u) (.cel (h0.length + a)) = true ∧ u[a]? = some (.lst T) ∧
    ∀ v, T.length < 16777216 → mAppend (.cel (h0.length + a)) v (h0 ++ u) = .ok .non (h0 ++ u.set a (.lst (T ++ [v]))) ∧ Stk h0.length (u.set a (.lst (T ++ [v]))) r ((T ++ [v]) :: R) := by
  obtain ⟨as, h1, h2, h3⟩ := s
  cases as with
  | nil => exact h3.elim
  | cons a as =>
    refine ⟨a, ?_, ?_, h3.1, fun v hl => ⟨?_, a :: as, ?_, h2, ?_, ?_⟩⟩
    · rw [z_ixC, get_rel, h1]
      dsimp only
      have : atI ((a :: as).map fun a => AV.cel (h0.length + a)).reverse (-1) = some (.cel (h0.length + a)) := by
        rw [atI_neg1 (by simp)]
        simp
      rw [this]
    · unfold tyA
      simp only [get_rel, h3.1]
      rfl
    · rw [z_app, get_rel, h3.1]
      dsimp only
      rw [if_pos (by rw [line_is]; exact hl), set_rel]
    · rw [List.getElem?_set_ne (by
        have := (List.nodup_cons.mp h2).1
        simp at this
        exact fun z => this.1 z.symm)]
      exact h1
    · exact List.getElem?_set_self (List.getElem?_eq_some_iff.mp h3.1).1
    · exact h3.2.set (List.nodup_cons.mp (List.nodup_cons.mp h2).2).1
/-- an empty row more -/
theorem Stk.push (s : Stk h0.length u r R) (hl : R.length < 16777216) : ∃ u', mAppend (.cel (h0.length + r)) (.cel (h0 ++ u).length) (h0 ++ u ++ [.lst []]) = .ok .non (h0 ++ u') ∧ Stk h0.length u' r ([] :: R) := by
  obtain ⟨as, h1, h2, h3⟩ := s
  have hr := (List.getElem?_eq_some_iff.mp h1).1
  refine ⟨(u ++ [HC.lst []]).set r (HC.lst ((as.map fun a => AV.cel (h0.length + a)).reverse ++ [AV.cel (h0 ++ u).length])), ?_, u.length :: as, ?_, ?_, ?_, ?_⟩
  · rw [List.append_assoc, z_app, get_rel, List.getElem?_append_left hr, h1]
    dsimp only
    rw [if_pos (by rw [line_is]; simp [h3.len]; exact hl), set_rel]
  · rw [List.getElem?_set_self (by simp; omega)]
    simp
  · have nd := List.nodup_cons.mp h2
    refine List.nodup_cons.mpr ⟨?_, List.nodup_cons.mpr ⟨fun z => ?_, nd.2⟩⟩
    · simp only [List.mem_cons, not_or]
      exact ⟨by omega, nd.1⟩
    · have := h3.bd _ z
      omega
  · rw [List.getElem?_set_ne (by omega)]
    simp
  · exact (h3.app).set (List.nodup_cons.mp h2).1
/-- the top row is taken off -/
theorem Stk.pop (s : Stk h0.length u r (T :: R)) : ∃ u' a, mPop (.cel (h0.length + r)) (h0 ++ u) = .ok (.cel (h0.length + a)) (h0 ++ u') ∧ cTuple [.cel (h0.length + a)] (h0 ++ u') = .ok (.tup T) (h0 ++ u') ∧ Stk h0.length u' r R := by
  obtain ⟨as, h1, h2, h3⟩ := s
  cases as with
  | nil => exact h3.elim
  | cons a as =>
    have nd := List.nodup_cons.mp h2
    have hra : r ≠ a := fun z => nd.1 (by rw [z]; simp)
    have hr := (List.getElem?_eq_some_iff.mp h1).1
    refine ⟨u.set r (.lst (as.map fun a => AV.cel (h0.length + a)).reverse), a, ?_, ?_, as, ?_, ?_, ?_⟩
    · unfold mPop
      simp only [get_rel, h1]
      have e1 : ((a :: as).map fun a => AV.cel (h0.length + a)).reverse[((a :: as).map fun a => AV.cel (h0.length + a)).reverse.length - 1]? = some (AV.cel (h0.length + a)) := by simp
      have e2 : ((a :: as).map fun a => AV.cel (h0.length + a)).reverse.dropLast = (as.map fun a => AV.cel (h0.length + a)).reverse := by simp
      rw [e1, e2]
      dsimp only
      rw [set_rel]
    · refine z_tupleC ?_
      rw [get_rel, List.getElem?_set_ne hra]
      exact h3.1
    · exact List.getElem?_set_self hr
    · refine List.nodup_cons.mpr ⟨fun z => nd.1 (List.mem_cons_of_mem _ z), (List.nodup_cons.mp nd.2).2⟩
    · exact h3.2.set fun z => nd.1 (List.mem_cons_of_mem _ z)
/-! as statements -/
section
variable {σ : AS} {i : Nat}
theorem len_rows (s : Stk h0.length u r R) (hi : σ[i]? = some (some (.cel (h0.length + r)))) : eCall cLen (aCons (eVar i) aNil) σ (h0 ++ u) = .ok (.int R.length) (h0 ++ u) := by
  simp only [z_eCall, z_aCons, z_eVar, z_aNil, hi, Res.bind_ok, s.len]
theorem app_top {e : E} {v : AV} (s : Stk h0.length u r (T :: R)) (hi : σ[i]? = some (some (.cel (h0.length + r)))) (he : e σ (h0 ++ u) = .ok v (h0 ++ u)) (hl : T.length < 16777216) :
    ∃ u', sDrop (eM1 "list" mAppend (eOp2 oIx (eVar i) (eOp1 oNeg (eC (.int 1)))) e) σ (h0 ++ u) = .nx σ (h0 ++ u') ∧ Stk h0.length u' r ((T ++ [v]) :: R) := by
  obtain ⟨a, e1, e2, e3, e4⟩ := s.top
  obtain ⟨e5, s5⟩ := e4 v hl
  refine ⟨_, ?_, s5⟩
  simp only [z_sDrop, z_eM1, z_eOp2, z_eVar, hi, z_eOp1, z_eC, z_negI, Res.bind_ok, e1, e2, if_true, he, e5, Res.st_ok]
theorem push_new (s : Stk h0.length u r R) (hi : σ[i]? = some (some (.cel (h0.length + r)))) (hl : R.length < 16777216) : ∃ u', sDrop (eM1 "list" mAppend (eVar i) (eLstC aNil)) σ (h0 ++ u) = .nx σ (h0 ++ u') ∧ Stk h0.length u' r ([] :: R) := by
  obtain ⟨u', e1, s1⟩ := s.push hl
  refine ⟨u', ?_, s1⟩
  simp only [z_sDrop, z_eM1, z_eVar, hi, Res.bind_ok, s.ty, if_true, z_eLstC, z_aNil, List.length_nil, line_is, Nat.zero_le, e1, Res.st_ok]
theorem pop_tup (s : Stk h0.length u r (T :: R)) (hi : σ[i]? = some (some (.cel (h0.length + r)))) : ∃ u', eCall cTuple (aCons (eOp1 mPop (eVar i)) aNil) σ (h0 ++ u) = .ok (.tup T) (h0 ++ u') ∧ Stk h0.length u' r R := by
  obtain ⟨u', a, e1, e2, s1⟩ := s.pop
  refine ⟨u', ?_, s1⟩
  simp only [z_eCall, z_aCons, z_eOp1, z_eVar, hi, Res.bind_ok, e1, z_aNil, e2]
end
/-- a new stack with one empty row; an empty stack -/
theorem stk_one (h0 : AH) : Stk h0.length [.lst [], .lst [.cel h0.length]] 1 [[]] := ⟨[0], by simp, by simp, by simp [RowsAt]⟩
theorem stk_nil (n : Nat) : Stk n [.lst []] 0 [] := ⟨[], by simp, by simp, by simp [RowsAt]⟩
end
end Mi

end

section
namespace Lk94
open Mi MiL
/-! ### the terms -/
def names : List String := ["BadValue"]
def sub (c d : String) : Option Bool := if ((c == "DeedError" || names.contains c) && (d == "DeedError" || names.contains d)) = true then some (c == d || d == "DeedError") else none
def e__law_number_0 : E := eCall cStr (aCons (eCall m__law_draw (aCons (eVar 0) (aCons (eC (.int 10)) (aNil)))) (aNil))
def m__law_number : List AV → M AV := mDef 2 4 (sSeq (sAsg (eOp2 oAdd (eCall cStr (aCons (eOp2 oAdd (eC (.int 1)) (eCall m__law_draw (aCons (eVar 0) (aCons (eC (.int 9)) (aNil))))) (aNil))) (eM1 "str" mJoin (eC (.str [])) (eLc (iRng1 (eOp2 oSub (eVar 1) (eC (.int 1)))) (gNm 3) (tYes) (e__law_number_0) [3]))) (gNm 2)) (sSeq (sIf (tAnd (tB (eOp2 oEq (eVar 1) (eC (.int 1)))) (tB (eOp2 oEq (eCall m__law_draw (aCons (eVar 0) (aCons (eC (.int 3)) (aNil)))) (eC (.int 0))))) (sRet (eC (.str [48]))) (sNx)) (sRet (eOp2 oAdd (eCall m__law_pick (aCons (eVar 0) (aCons (eLst (aCons (eC (.str [])) (aCons (eC (.str [])) (aCons (eC (.str [45])) (aNil))))) (aNil)))) (eVar 2)))))
def m__law_signs : List AV → M AV := mDef 0 1 (sSeq (sAsg (eC (.str [32, 33, 34, 35, 36, 38, 40, 41, 42, 43, 44, 45, 46, 47, 48, 49, 50, 51, 52, 53, 54, 55, 56, 57, 58, 60, 61, 62, 63, 64, 65, 66, 67, 68, 69, 70, 71, 72, 73, 74, 75, 76, 77, 78, 79, 80, 81, 82, 83, 84, 85, 86, 87, 88, 89, 90, 91, 92, 93, 94, 95, 96])) (gNm 0)) (sRet (eOp2 oAdd (eVar 0) (eC (.str [97, 98, 99, 100, 101, 102, 103, 104, 105, 106, 107, 108, 109, 110, 111, 112, 113, 114, 115, 116, 117, 118, 119, 120, 121, 122, 123, 124, 125, 126])))))
def e__law_leaf_made_0 : E := eCall m__law_pick (aCons (eVar 0) (aCons (eVar 2) (aNil)))
def m__law_leaf_made : List AV → M AV := mDef 1 6 (sSeq (sAsg (eCall m__law_draw (aCons (eVar 0) (aCons (eC (.int 5)) (aNil)))) (gNm 1)) (sSeq (sIf (tB (eOp2 oEq (eVar 1) (eC (.int 0)))) (sRet (eTup (aCons (eC .non) (aCons (eC (.str [45])) (aNil))))) (sNx)) (sSeq (sIf (tB (eOp2 oLt (eVar 1) (eC (.int 3)))) (sSeq (sAsg (eCall m__law_number (aCons (eVar 0) (aCons (eCall m__law_pick (aCons (eVar 0) (aCons (eLst (aCons (eC (.int 1)) (aCons (eC (.int 1)) (aCons (eC (.int 2)) (aCons (eC (.int 3)) (aCons (eC (.int 7)) (aCons (eC (.int 18)) (aCons (eC (.int 29)) (aCons (eC (.int 30)) (aNil)))))))))) (aNil)))) (aNil)))) (gNm 4)) (sRet (eTup (aCons (eCall cInt (aCons (eVar 4) (aNil))) (aCons (eVar 4) (aNil)))))) (sNx)) (sSeq (sAsg (eOp2 oAdd (eCall m__law_signs aNil) (eC (.str [10, 10]))) (gNm 2)) (sSeq (sAsg (eM1 "str" mJoin (eC (.str [])) (eLc (iRng1 (eCall m__law_pick (aCons (eVar 0) (aCons (eLst (aCons (eC (.int 0)) (aCons (eC (.int 1)) (aCons (eC (.int 2)) (aCons (eC (.int 3)) (aCons (eC (.int 9)) (aCons (eC (.int 30)) (aNil)))))))) (aNil))))) (gNm 5) (tYes) (e__law_leaf_made_0) [5])) (gNm 3)) (sRet (eTup (aCons (eVar 3) (aCons (eOp2 oAdd (eOp2 oAdd (eC (.str [39])) (eOp1 (mRepl 10 [59]) (eVar 3))) (eC (.str [39]))) (aNil))))))))))
def s__law_wrapped_0 : S := sSeq (sAsg (eCall m__law_draw (aCons (eVar 0) (aCons (eC (.int 3)) (aNil)))) (gNm 6)) (sIf (tB (eOp2 oEq (eVar 6) (eC (.int 0)))) (sPar 3 4 (eTup (aCons (eVar 3) (aCons (eC .non) (aNil)))) (eOp2 oAdd (eOp2 oAdd (eC (.str [40])) (eVar 4)) (eC (.str [32, 45, 41])))) (sIf (tB (eOp2 oEq (eVar 6) (eC (.int 1)))) (sPar 3 4 (eTup (aCons (eC (.str [])) (aCons (eVar 3) (aNil)))) (eOp2 oAdd (eOp2 oAdd (eC (.str [40, 39, 39, 32])) (eVar 4)) (eC (.str [41])))) (sPar 3 4 (eTup (aCons (eVar 3) (aNil))) (eOp2 oAdd (eOp2 oAdd (eC (.str [40])) (eVar 4)) (eC (.str [41]))))))
def m__law_wrapped : List AV → M AV := mDef 3 7 (sSeq (sAsg (eVar 1) (gTp [gNm 3, gNm 4])) (sSeq (sFor (iRng1 (eVar 2)) (gNm 5) (s__law_wrapped_0)) (sRet (eTup (aCons (eVar 3) (aCons (eVar 4) (aNil)))))))
def e__law_bad_leaf_0 : E := eCall m__law_pick (aCons (eVar 0) (aCons (eOp2 oAdd (eCall m__law_signs aNil) (eC (.str [10]))) (aNil)))
def m__law_bad_leaf : List AV → M AV := mDef 1 4 (sSeq (sIf (tB (eOp2 oEq (eCall m__law_draw (aCons (eVar 0) (aCons (eC (.int 2)) (aNil)))) (eC (.int 1)))) (sRet (eCall cInt (aCons (eOp2 oAdd (eOp2 oAdd (eCall m__law_pick (aCons (eVar 0) (aCons (eLst (aCons (eC (.str [])) (aCons (eC (.str [45])) (aNil)))) (aNil)))) (eCall cStr (aCons (eOp2 oAdd (eC (.int 1)) (eCall m__law_draw (aCons (eVar 0) (aCons (eC (.int 9)) (aNil))))) (aNil)))) (eOp1 (mRepl 45 []) (eCall m__law_number (aCons (eVar 0) (aCons (eC (.int 30)) (aNil)))))) (aNil)))) (sNx)) (sSeq (sAsg (eM1 "str" mJoin (eC (.str [])) (eLc (iRng1 (eCall m__law_draw (aCons (eVar 0) (aCons (eC (.int 12)) (aNil))))) (gNm 3) (tYes) (e__law_bad_leaf_0) [3])) (gNm 1)) (sSeq (sAsg (eCall m__law_draw (aCons (eVar 0) (aCons (eOp2 oAdd (eCall cLen (aCons (eVar 1) (aNil))) (eC (.int 1))) (aNil)))) (gNm 2)) (sRet (eOp2 oAdd (eOp2 oAdd (eSl (eVar 1) oNo (oAt (eVar 2))) (eCall m__law_pick (aCons (eVar 0) (aCons (eC (.str [39, 59, 9])) (aNil))))) (eSl (eVar 1) (oAt (eVar 2)) oNo))))))
def s__law_made_0 : S := sSeq (sAsg (eCall m__law_draw (aCons (eVar 0) (aCons (eC (.int 6)) (aNil)))) (gNm 5)) (sIf (tAnd (tB (eOp2 oEq (eVar 5) (eC (.int 0)))) (tB (eOp2 oGt (eCall cLen (aCons (eVar 2) (aNil))) (eC (.int 1))))) (sSeq (sAsg (eCall cTuple (aCons (eOp1 mPop (eVar 2)) (aNil))) (gNm 6)) (sSeq (sDrop (eM1 "list" mAppend (eOp2 oIx (eVar 2) (eOp1 oNeg (eC (.int 1)))) (eVar 6))) (sAsg (eOp2 oAdd (eVar 3) (eC (.str [41]))) (gNm 3)))) (sSeq (sIf (tB (eOp2 oGt (eCall cLen (aCons (eOp2 oIx (eVar 2) (eOp1 oNeg (eC (.int 1)))) (aNil))) (eC (.int 0)))) (sAsg (eOp2 oAdd (eVar 3) (eC (.str [32]))) (gNm 3)) (sNx)) (sIf (tAnd (tB (eOp2 oLt (eVar 5) (eC (.int 3)))) (tB (eOp2 oLt (eCall cLen (aCons (eVar 2) (aNil))) (eC (.int 40))))) (sSeq (sDrop (eM1 "list" mAppend (eVar 2) (eLstC (aNil)))) (sAsg (eOp2 oAdd (eVar 3) (eC (.str [40]))) (gNm 3))) (sSeq (sAsg (eCall m__law_leaf_made (aCons (eVar 0) (aNil))) (gNm 7)) (sSeq (sDrop (eM1 "list" mAppend (eOp2 oIx (eVar 2) (eOp1 oNeg (eC (.int 1)))) (eOp2 oIx (eVar 7) (eC (.int 0))))) (sAsg (eOp2 oAdd (eVar 3) (eOp2 oIx (eVar 7) (eC (.int 1)))) (gNm 3)))))))
def s__law_made_1 : S := sSeq (sAsg (eCall cTuple (aCons (eOp1 mPop (eVar 2)) (aNil))) (gNm 6)) (sSeq (sDrop (eM1 "list" mAppend (eOp2 oIx (eVar 2) (eOp1 oNeg (eC (.int 1)))) (eVar 6))) (sAsg (eOp2 oAdd (eVar 3) (eC (.str [41]))) (gNm 3)))
def m__law_made : List AV → M AV := mDef 2 8 (sSeq (sAsg (eLstC (aCons (eLstC (aNil)) (aNil))) (gNm 2)) (sSeq (sAsg (eC (.str [40])) (gNm 3)) (sSeq (sFor (iRng1 (eVar 1)) (gNm 4) (s__law_made_0)) (sSeq (sFor (iRng1 (eOp2 oSub (eCall cLen (aCons (eVar 2) (aNil))) (eC (.int 1)))) (gNm 4) (s__law_made_1)) (sRet (eTup (aCons (eCall cTuple (aCons (eOp2 oIx (eVar 2) (eC (.int 0))) (aNil))) (aCons (eOp2 oAdd (eVar 3) (eC (.str [41]))) (aNil)))))))))
def m_is_written_sign : List AV → M AV := mDef 1 1 (sRet (eAnd (eChain oLe oLe (eC (.int 32)) (eCall cOrd (aCons (eVar 0) (aNil))) (eC (.int 126))) (eOp2 oNotIn (eCall cOrd (aCons (eVar 0) (aNil))) (eC (.scr true [.int 37, .int 39, .int 59])))))
def s_write_text_0 : S := sIf (tAnd (tB (eOp2 oNe (eVar 1) (eC (.str [10])))) (tNot (tB (eCall m_is_written_sign (aCons (eVar 1) (aNil)))))) (sRaise "BadValue" ["at"] (aCons (eC (.int 0)) (aNil))) (sNx)
def m_write_text : List AV → M AV := mDef 1 2 (sSeq (sFor (iSeq (eVar 0)) (gNm 1) (s_write_text_0)) (sRet (eOp2 oAdd (eOp2 oAdd (eC (.str [39])) (eOp1 (mRepl 10 [59]) (eVar 0))) (eC (.str [39])))))
def m_write_leaf : List AV → M AV := mDef 1 2 (sSeq (sIf (tB (eOp1 oIsN (eVar 0))) (sRet (eC (.str [45]))) (sNx)) (sSeq (sIf (tB (eOp1 (oIsTy "str") (eVar 0))) (sRet (eCall m_write_text (aCons (eVar 0) (aNil)))) (sNx)) (sSeq (sAsg (eOp2 oPow (eC (.int 10)) (eC (.int 30))) (gNm 1)) (sSeq (sIf (tNot (tB (eChain oLt oLt (eOp2 oSub (eC (.int 0)) (eVar 1)) (eVar 0) (eVar 1)))) (sRaise "BadValue" ["at"] (aCons (eC (.int 0)) (aNil))) (sNx)) (sRet (eCall cStr (aCons (eVar 0) (aNil))))))))
def s_write_value_0 : S := sSeq (sAsg (eOp1 mPop (eVar 2)) (gTp [gNm 3, gNm 4])) (sIf (tNot (tB (eOp1 (oIsTy "tuple") (eVar 3)))) (sDrop (eM1 "list" mAppend (eVar 1) (eCall m_write_leaf (aCons (eVar 3) (aNil))))) (sSeq (sIf (tB (eOp2 oEq (eVar 4) (eC (.int 0)))) (sDrop (eM1 "list" mAppend (eVar 1) (eC (.str [40])))) (sIf (tB (eOp2 oLt (eVar 4) (eCall cLen (aCons (eVar 3) (aNil))))) (sDrop (eM1 "list" mAppend (eVar 1) (eC (.str [32])))) (sNx))) (sIf (tB (eOp2 oLt (eVar 4) (eCall cLen (aCons (eVar 3) (aNil))))) (sSeq (sDrop (eM1 "list" mAppend (eVar 2) (eTup (aCons (eVar 3) (aCons (eOp2 oAdd (eVar 4) (eC (.int 1))) (aNil)))))) (sDrop (eM1 "list" mAppend (eVar 2) (eTup (aCons (eOp2 oIx (eVar 3) (eVar 4)) (aCons (eC (.int 0)) (aNil))))))) (sDrop (eM1 "list" mAppend (eVar 1) (eC (.str [41])))))))
def t_write_value_0 : T := tB (eOp2 oGt (eCall cLen (aCons (eVar 2) (aNil))) (eC (.int 0)))
def m_write_value : List AV → M AV := mDef 1 5 (sSeq (sAsg (eLstC (aNil)) (gNm 1)) (sSeq (sAsg (eLstC (aCons (eTup (aCons (eVar 0) (aCons (eC (.int 0)) (aNil)))) (aNil))) (gNm 2)) (sSeq (sWhile 1000000 (t_write_value_0) (s_write_value_0)) (sRet (eM1 "str" mJoin (eC (.str [])) (eVar 1))))))
def m__law_refuses : List AV → M AV := mDef 1 2 (sSeq (sTry sub (sDrop (eCall m_write_value (aCons (eVar 0) (aNil)))) [("BadValue", some 1, sRet (eAnd (eCall m__law_is_int (aCons (eXf "at" 1) (aNil))) (eOp2 oEq (eXf "at" 1) (eC (.int 0))))), ("DeedError", none, sRet (eC (.bl false)))]) (sRet (eC (.bl false))))
def m__law_turned : List AV → M AV := mDef 2 5 (sSeq (sAsg (eCall m__law_draw (aCons (eVar 0) (aCons (eOp2 oAdd (eCall cLen (aCons (eVar 1) (aNil))) (eC (.int 1))) (aNil)))) (gNm 2)) (sSeq (sAsg (eCall m__law_pick (aCons (eVar 0) (aCons (eOp2 oAdd (eC (.str [40, 41, 39, 32, 45, 48, 49, 55, 57, 59, 10, 9])) (eCall m__law_pick (aCons (eVar 0) (aCons (eCall m__law_signs aNil) (aNil))))) (aNil)))) (gNm 3)) (sSeq (sAsg (eCall m__law_draw (aCons (eVar 0) (aCons (eC (.int 4)) (aNil)))) (gNm 4)) (sSeq (sIf (tB (eOp2 oEq (eVar 4) (eC (.int 0)))) (sRet (eOp2 oAdd (eOp2 oAdd (eSl (eVar 1) oNo (oAt (eVar 2))) (eVar 3)) (eSl (eVar 1) (oAt (eVar 2)) oNo))) (sNx)) (sSeq (sIf (tB (eOp2 oEq (eVar 4) (eC (.int 1)))) (sRet (eOp2 oAdd (eSl (eVar 1) oNo (oAt (eVar 2))) (eSl (eVar 1) (oAt (eOp2 oAdd (eVar 2) (eC (.int 1)))) oNo))) (sNx)) (sSeq (sIf (tB (eOp2 oEq (eVar 4) (eC (.int 2)))) (sRet (eOp2 oAdd (eOp2 oAdd (eSl (eVar 1) oNo (oAt (eVar 2))) (eVar 3)) (eSl (eVar 1) (oAt (eOp2 oAdd (eVar 2) (eC (.int 1)))) oNo))) (sNx)) (sRet (eSl (eVar 1) oNo (oAt (eVar 2))))))))))
def s_is_plain_0 : S := sSeq (sAsg (eOp1 mPop (eVar 1)) (gNm 2)) (sIf (tB (eOp1 (oIsTy "tuple") (eVar 2))) (sDrop (eM1 "list" mExtend (eVar 1) (eCall cList (aCons (eVar 2) (aNil))))) (sIf (tB (eOp1 (oIsTy "bool") (eVar 2))) (sRet (eC (.bl false))) (sIf (tAnd (tB (eOp1 oNotN (eVar 2))) (tAnd (tNot (tB (eOp1 (oIsTy "int") (eVar 2)))) (tNot (tB (eOp1 (oIsTy "str") (eVar 2)))))) (sRet (eC (.bl false))) (sNx))))
def t_is_plain_0 : T := tB (eOp2 oGt (eCall cLen (aCons (eVar 1) (aNil))) (eC (.int 0)))
def m_is_plain : List AV → M AV := mDef 1 3 (sSeq (sAsg (eLstC (aCons (eVar 0) (aNil))) (gNm 1)) (sSeq (sWhile 1000000 (t_is_plain_0) (s_is_plain_0)) (sRet (eC (.bl true)))))
def s_closed_tuples_0 : S := sSeq (sDrop (eM1 "list" mAppend (eOp2 oIx (eVar 2) (eOp1 oNeg (eC (.int 1)))) (eVar 3))) (sSeq (sAsg (eSl (eVar 0) (oAt (eVar 1)) (oAt (eOp2 oAdd (eVar 1) (eC (.int 1))))) (gNm 4)) (sSeq (sIf (tB (eOp2 oEq (eVar 4) (eC (.str [32])))) (sRet (eTup (aCons (eC .non) (aCons (eOp2 oAdd (eVar 1) (eC (.int 1))) (aCons (eC (.bl false)) (aNil)))))) (sNx)) (sSeq (sIf (tB (eOp2 oNe (eVar 4) (eC (.str [41])))) (sRaise "BadValue" ["at"] (aCons (eVar 1) (aNil))) (sNx)) (sSeq (sAsg (eCall cTuple (aCons (eOp1 mPop (eVar 2)) (aNil))) (gNm 3)) (sAug 1 oIadd (eC (.int 1)))))))
def t_closed_tuples_0 : T := tB (eOp2 oGt (eCall cLen (aCons (eVar 2) (aNil))) (eC (.int 0)))
def m_closed_tuples : List AV → M AV := mDef 4 5 (sSeq (sWhile 1000000 (t_closed_tuples_0) (s_closed_tuples_0)) (sSeq (sIf (tB (eOp2 oNe (eVar 1) (eCall cLen (aCons (eVar 0) (aNil))))) (sRaise "BadValue" ["at"] (aCons (eVar 1) (aNil))) (sNx)) (sRet (eTup (aCons (eVar 3) (aCons (eVar 1) (aCons (eC (.bl true)) (aNil))))))))
def s_figures_end_0 : S := sAug 2 oIadd (eC (.int 1))
def t_figures_end_0 : T := tAnd (tB (eOp2 oLt (eVar 2) (eCall cLen (aCons (eVar 0) (aNil))))) (tAnd (tB (eOp2 oIn (eOp2 oIx (eVar 0) (eVar 2)) (eC (.str [48, 49, 50, 51, 52, 53, 54, 55, 56, 57])))) (tB (eOp2 oLt (eOp2 oSub (eVar 2) (eVar 1)) (eC (.int 30)))))
def m_figures_end : List AV → M AV := mDef 2 3 (sSeq (sIf (tB (eOp2 oEq (eOp2 oIx (eVar 0) (eVar 1)) (eC (.str [48])))) (sRet (eOp2 oAdd (eVar 1) (eC (.int 1)))) (sNx)) (sSeq (sAsg (eVar 1) (gNm 2)) (sSeq (sWhile 1000000 (t_figures_end_0) (s_figures_end_0)) (sRet (eVar 2)))))
def s_read_text_0 : S := sSeq (sIf (tAnd (tNot (tB (eCall m_is_written_sign (aCons (eOp2 oIx (eVar 0) (eVar 2)) (aNil))))) (tB (eOp2 oNe (eOp2 oIx (eVar 0) (eVar 2)) (eC (.str [59]))))) (sRaise "BadValue" ["at"] (aCons (eVar 2) (aNil))) (sNx)) (sAug 2 oIadd (eC (.int 1)))
def t_read_text_0 : T := tAnd (tB (eOp2 oLt (eVar 2) (eCall cLen (aCons (eVar 0) (aNil))))) (tB (eOp2 oNe (eOp2 oIx (eVar 0) (eVar 2)) (eC (.str [39]))))
def m_read_text : List AV → M AV := mDef 2 3 (sSeq (sAsg (eOp2 oAdd (eVar 1) (eC (.int 1))) (gNm 2)) (sSeq (sWhile 1000000 (t_read_text_0) (s_read_text_0)) (sSeq (sIf (tB (eOp2 oEq (eVar 2) (eCall cLen (aCons (eVar 0) (aNil))))) (sRaise "BadValue" ["at"] (aCons (eVar 2) (aNil))) (sNx)) (sRet (eTup (aCons (eOp1 (mRepl 59 [10]) (eSl (eVar 0) (oAt (eOp2 oAdd (eVar 1) (eC (.int 1)))) (oAt (eVar 2)))) (aCons (eOp2 oAdd (eVar 2) (eC (.int 1))) (aNil))))))))
def m_read_leaf : List AV → M AV := mDef 2 5 (sSeq (sAsg (eSl (eVar 0) (oAt (eVar 1)) (oAt (eOp2 oAdd (eVar 1) (eC (.int 1))))) (gNm 2)) (sSeq (sIf (tB (eOp2 oEq (eVar 2) (eC (.str [39])))) (sRet (eCall m_read_text (aCons (eVar 0) (aCons (eVar 1) (aNil))))) (sNx)) (sSeq (sIf (tB (eOp2 oEq (eVar 2) (eC (.str [45])))) (sSeq (sAsg (eSl (eVar 0) (oAt (eOp2 oAdd (eVar 1) (eC (.int 1)))) (oAt (eOp2 oAdd (eVar 1) (eC (.int 2))))) (gNm 4)) (sSeq (sIf (tOr (tB (eOp2 oEq (eVar 4) (eC (.str [])))) (tOr (tB (eOp2 oEq (eVar 4) (eC (.str [48])))) (tB (eOp2 oNotIn (eVar 4) (eC (.str [48, 49, 50, 51, 52, 53, 54, 55, 56, 57])))))) (sRet (eTup (aCons (eC .non) (aCons (eOp2 oAdd (eVar 1) (eC (.int 1))) (aNil))))) (sNx)) (sSeq (sAsg (eCall m_figures_end (aCons (eVar 0) (aCons (eOp2 oAdd (eVar 1) (eC (.int 1))) (aNil)))) (gNm 3)) (sRet (eTup (aCons (eOp2 oSub (eC (.int 0)) (eCall cInt (aCons (eSl (eVar 0) (oAt (eOp2 oAdd (eVar 1) (eC (.int 1)))) (oAt (eVar 3))) (aNil)))) (aCons (eVar 3) (aNil)))))))) (sNx)) (sSeq (sIf (tOr (tB (eOp2 oEq (eVar 2) (eC (.str [])))) (tB (eOp2 oNotIn (eVar 2) (eC (.str [48, 49, 50, 51, 52, 53, 54, 55, 56, 57]))))) (sRaise "BadValue" ["at"] (aCons (eVar 1) (aNil))) (sNx)) (sSeq (sAsg (eCall m_figures_end (aCons (eVar 0) (aCons (eVar 1) (aNil)))) (gNm 3)) (sRet (eTup (aCons (eCall cInt (aCons (eSl (eVar 0) (oAt (eVar 1)) (oAt (eVar 3))) (aNil))) (aCons (eVar 3) (aNil))))))))))
def s_read_value_0 : S := sIf (tAnd (tB (eOp2 oEq (eSl (eVar 0) (oAt (eVar 2)) (oAt (eOp2 oAdd (eVar 2) (eC (.int 1))))) (eC (.str [40])))) (tB (eOp2 oNe (eSl (eVar 0) (oAt (eOp2 oAdd (eVar 2) (eC (.int 1)))) (oAt (eOp2 oAdd (eVar 2) (eC (.int 2))))) (eC (.str [41]))))) (sSeq (sDrop (eM1 "list" mAppend (eVar 1) (eLstC (aNil)))) (sAug 2 oIadd (eC (.int 1)))) (sSeq (sIf (tB (eOp2 oEq (eSl (eVar 0) (oAt (eVar 2)) (oAt (eOp2 oAdd (eVar 2) (eC (.int 2))))) (eC (.str [40, 41])))) (sSeq (sAsg (eTup (aNil)) (gNm 3)) (sAug 2 oIadd (eC (.int 2)))) (sAsg (eCall m_read_leaf (aCons (eVar 0) (aCons (eVar 2) (aNil)))) (gTp [gNm 3, gNm 2]))) (sSeq (sAsg (eCall m_closed_tuples (aCons (eVar 0) (aCons (eVar 2) (aCons (eVar 1) (aCons (eVar 3) (aNil)))))) (gTp [gNm 3, gNm 2, gNm 4])) (sIf (tB (eVar 4)) (sRet (eVar 3)) (sNx))))
def t_read_value_0 : T := tB (eC (.bl true))
def m_read_value : List AV → M AV := mDef 1 5 (sSeq (sAsg (eLstC (aNil)) (gNm 1)) (sSeq (sAsg (eC (.int 0)) (gNm 2)) (sWhile 1000000 (t_read_value_0) (s_read_value_0))))
def m__law_odd : List AV → M AV := mDef 2 5 (sSeq (sAsg (eCall m__law_pick (aCons (eVar 0) (aCons (eLst (aCons (eC (.bl true)) (aCons (eC (.bl false)) (aCons (eLst (aNil)) (aCons (eLst (aCons (eVar 1) (aNil))) (aCons (eDic0 false) (aCons (eLst (aCons (eC (.int 1)) (aCons (eTup (aNil)) (aNil)))) (aNil)))))))) (aNil)))) (gNm 2)) (sSeq (sAsg (eTup (aCons (eVar 1) (aCons (eC (.int 1)) (aCons (eC (.str [])) (aCons (eC .non) (aNil)))))) (gNm 3)) (sSeq (sAsg (eCall m__law_draw (aCons (eVar 0) (aCons (eC (.int 5)) (aNil)))) (gNm 4)) (sRet (eCall m__law_pick (aCons (eVar 0) (aCons (eLst (aCons (eVar 2) (aCons (eOp2 oAdd (eOp2 oAdd (eSl (eVar 3) oNo (oAt (eVar 4))) (eTup (aCons (eVar 2) (aNil)))) (eSl (eVar 3) (oAt (eVar 4)) oNo)) (aCons (eTup (aCons (eTup (aNil)) (aCons (eTup (aCons (eTup (aCons (eVar 1) (aCons (eTup (aCons (eVar 2) (aNil))) (aNil)))) (aNil))) (aNil)))) (aCons (eTup (aCons (eVar 3) (aCons (eSl (eVar 3) oNo (oAt (eVar 4))) (aCons (eVar 2) (aNil))))) (aNil)))))) (aNil))))))))
def m__law_leaf_of : List AV → M AV := mDef 1 1 (sSeq (sIf (tB (eOp2 oEq (eVar 0) (eC (.str [45])))) (sRet (eC .non)) (sNx)) (sRet (eCall cInt (aCons (eVar 0) (aNil)))))
def m__law_goes_on : List AV → M AV := mDef 2 2 (sSeq (sIf (tOr (tB (eOp2 oNotIn (eVar 1) (eC (.str [48, 49, 50, 51, 52, 53, 54, 55, 56, 57])))) (tB (eOp2 oEq (eVar 0) (eC (.str [48]))))) (sRet (eC (.bl false))) (sNx)) (sSeq (sIf (tB (eOp2 oEq (eVar 0) (eC (.str [45])))) (sRet (eOp2 oNe (eVar 1) (eC (.str [48])))) (sNx)) (sRet (eOp2 oLt (eOp2 oSub (eCall cLen (aCons (eVar 0) (aNil))) (eCall cInt (aCons (eOp2 oEq (eOp2 oIx (eVar 0) (eC (.int 0))) (eC (.str [45]))) (aNil)))) (eC (.int 30))))))
def s__law_read_0 : S := sSeq (sAsg (eOp2 oIx (eVar 0) (eVar 5)) (gNm 6)) (sIf (tAnd (tB (eOp2 oEq (eVar 4) (eC (.str [116, 101, 120, 116])))) (tB (eOp2 oEq (eVar 6) (eC (.str [39]))))) (sSeq (sDrop (eM1 "list" mAppend (eOp2 oIx (eVar 2) (eOp1 oNeg (eC (.int 1)))) (eOp1 (mRepl 59 [10]) (eVar 3)))) (sAsg (eC (.str [98, 101, 104, 105, 110, 100])) (gNm 4))) (sIf (tOr (tAnd (tB (eOp2 oEq (eVar 4) (eC (.str [116, 101, 120, 116])))) (tB (eOp2 oIn (eVar 6) (eVar 1)))) (tAnd (tB (eOp2 oEq (eVar 4) (eC (.str [108, 101, 97, 102])))) (tB (eCall m__law_goes_on (aCons (eVar 3) (aCons (eVar 6) (aNil))))))) (sAsg (eOp2 oAdd (eVar 3) (eVar 6)) (gNm 3)) (sIf (tAnd (tOr (tB (eOp2 oEq (eVar 4) (eC (.str [118, 97, 108, 117, 101])))) (tB (eOp2 oEq (eVar 4) (eC (.str [111, 112, 101, 110]))))) (tB (eOp2 oIn (eVar 6) (eC (.str [40, 39, 45, 48, 49, 50, 51, 52, 53, 54, 55, 56, 57]))))) (sSeq (sAsg (eC (.str [])) (gNm 3)) (sIf (tB (eOp2 oEq (eVar 6) (eC (.str [40])))) (sSeq (sDrop (eM1 "list" mAppend (eVar 2) (eLstC (aNil)))) (sAsg (eC (.str [111, 112, 101, 110])) (gNm 4))) (sIf (tB (eOp2 oEq (eVar 6) (eC (.str [39])))) (sAsg (eC (.str [116, 101, 120, 116])) (gNm 4)) (sSeq (sAsg (eVar 6) (gNm 3)) (sAsg (eC (.str [108, 101, 97, 102])) (gNm 4)))))) (sIf (tOr (tAnd (tB (eOp2 oEq (eVar 4) (eC (.str [111, 112, 101, 110])))) (tB (eOp2 oEq (eVar 6) (eC (.str [41]))))) (tAnd (tB (eOp2 oIn (eVar 4) (eLst (aCons (eC (.str [108, 101, 97, 102])) (aCons (eC (.str [98, 101, 104, 105, 110, 100])) (aNil)))))) (tAnd (tB (eOp2 oIn (eVar 6) (eC (.str [32, 41])))) (tB (eOp2 oGt (eCall cLen (aCons (eVar 2) (aNil))) (eC (.int 1))))))) (sSeq (sIf (tB (eOp2 oEq (eVar 4) (eC (.str [108, 101, 97, 102])))) (sDrop (eM1 "list" mAppend (eOp2 oIx (eVar 2) (eOp1 oNeg (eC (.int 1)))) (eCall m__law_leaf_of (aCons (eVar 3) (aNil))))) (sNx)) (sSeq (sAsg (eC (.str [118, 97, 108, 117, 101])) (gNm 4)) (sIf (tB (eOp2 oEq (eVar 6) (eC (.str [41])))) (sSeq (sAsg (eCall cTuple (aCons (eOp1 mPop (eVar 2)) (aNil))) (gNm 7)) (sSeq (sDrop (eM1 "list" mAppend (eOp2 oIx (eVar 2) (eOp1 oNeg (eC (.int 1)))) (eVar 7))) (sAsg (eC (.str [98, 101, 104, 105, 110, 100])) (gNm 4)))) (sNx)))) (sRet (eTup (aCons (eC (.str [98, 97, 100])) (aCons (eVar 5) (aNil)))))))))
def m__law_read : List AV → M AV := mDef 1 8 (sSeq (sAsg (eOp2 oAdd (eCall m__law_signs aNil) (eC (.str [59]))) (gNm 1)) (sSeq (sAsg (eLstC (aCons (eLstC (aNil)) (aNil))) (gNm 2)) (sSeq (sAsg (eC (.str [])) (gNm 3)) (sSeq (sAsg (eC (.str [118, 97, 108, 117, 101])) (gNm 4)) (sSeq (sFor (iRng1 (eCall cLen (aCons (eVar 0) (aNil)))) (gNm 5) (s__law_read_0)) (sSeq (sIf (tOr (tB (eOp2 oGt (eCall cLen (aCons (eVar 2) (aNil))) (eC (.int 1)))) (tOr (tB (eOp2 oEq (eVar 4) (eC (.str [118, 97, 108, 117, 101])))) (tB (eOp2 oEq (eVar 4) (eC (.str [116, 101, 120, 116])))))) (sRet (eTup (aCons (eC (.str [98, 97, 100])) (aCons (eCall cLen (aCons (eVar 0) (aNil))) (aNil))))) (sNx)) (sSeq (sIf (tB (eOp2 oEq (eVar 4) (eC (.str [108, 101, 97, 102])))) (sDrop (eM1 "list" mAppend (eOp2 oIx (eVar 2) (eOp1 oNeg (eC (.int 1)))) (eCall m__law_leaf_of (aCons (eVar 3) (aNil))))) (sNx)) (sRet (eTup (aCons (eC (.str [118, 97, 108, 117, 101])) (aCons (eOp2 oIx (eOp2 oIx (eVar 2) (eC (.int 0))) (eC (.int 0))) (aNil))))))))))))
def m__law_asked : List AV → M AV := mDef 1 4 (sSeq (sAsg (eCall m__law_read (aCons (eVar 0) (aNil))) (gNm 1)) (sSeq (sTry sub (sAsg (eCall m_read_value (aCons (eVar 0) (aNil))) (gNm 2)) [("BadValue", some 3, sRet (eAnd (eOp2 oEq (eOp2 oIx (eVar 1) (eC (.int 0))) (eC (.str [98, 97, 100]))) (eAnd (eCall m__law_is_int (aCons (eXf "at" 3) (aNil))) (eOp2 oEq (eXf "at" 3) (eOp2 oIx (eVar 1) (eC (.int 1))))))), ("DeedError", none, sRet (eC (.bl false)))]) (sRet (eAnd (eOp2 oEq (eOp2 oIx (eVar 1) (eC (.int 0))) (eC (.str [118, 97, 108, 117, 101]))) (eAnd (eCall (m__law_same 200) (aCons (eVar 2) (aCons (eOp2 oIx (eVar 1) (eC (.int 1))) (aNil)))) (eOp2 oEq (eCall m_write_value (aCons (eVar 2) (aNil))) (eVar 0)))))))
def s_law_0 : S := sSeq (sAsg (eCall m_write_value (aCons (eOp2 oIx (eVar 6) (eC (.int 0))) (aNil))) (gNm 11)) (sSeq (sIf (tOr (tNot (tB (eOp1 (oIsTy "str") (eVar 11)))) (tOr (tB (eOp2 oNe (eVar 11) (eOp2 oIx (eVar 6) (eC (.int 1))))) (tNot (tB (eCall (m__law_same 200) (aCons (eCall m_read_value (aCons (eOp2 oIx (eVar 6) (eC (.int 1))) (aNil))) (aCons (eOp2 oIx (eVar 6) (eC (.int 0))) (aNil)))))))) (sRet (eC (.bl false))) (sNx)) (sIf (tOr (tB (eOp2 oNotB (eCall m_is_plain (aCons (eOp2 oIx (eVar 6) (eC (.int 0))) (aNil))) (eC (.bl true)))) (tB (eOp2 oNotB (eCall m_is_plain (aCons (eCall m__law_odd (aCons (eVar 1) (aCons (eOp2 oIx (eVar 6) (eC (.int 0))) (aNil)))) (aNil))) (eC (.bl false))))) (sRet (eC (.bl false))) (sNx)))
def s_law_1 : S := sIf (tNot (tB (eCall m__law_refuses (aCons (eVar 6) (aNil))))) (sRet (eC (.bl false))) (sNx)
def e_law_0 : E := eCall m__law_pick (aCons (eVar 1) (aCons (eC (.str [40, 40, 40, 41, 41, 41, 39, 39, 32, 45, 48, 49, 50, 51, 59, 97])) (aNil)))
def s_law_2 : S := sSeq (sDrop (eM1 "list" mAppend (eVar 9) (eCall m__law_turned (aCons (eVar 1) (aCons (eCall m__law_pick (aCons (eVar 1) (aCons (eLst (aCons (eVar 4) (aCons (eOp2 oIx (eVar 5) (eC (.int 1))) (aCons (eOp2 oIx (eVar 9) (eOp1 oNeg (eC (.int 1)))) (aNil))))) (aNil)))) (aNil)))))) (sSeq (sAsg (eCall m__law_number (aCons (eVar 1) (aCons (eOp2 oAdd (eC (.int 28)) (eCall m__law_draw (aCons (eVar 1) (aCons (eC (.int 5)) (aNil))))) (aNil)))) (gNm 12)) (sSeq (sDrop (eM1 "list" mAppend (eVar 9) (eOp2 oAdd (eOp2 oAdd (eCall m__law_pick (aCons (eVar 1) (aCons (eLst (aCons (eC (.str [])) (aCons (eC (.str [40])) (aCons (eC (.str [40, 45, 32])) (aCons (eC (.str [40, 39, 39, 32, 48])) (aNil)))))) (aNil)))) (eVar 12)) (eCall m__law_pick (aCons (eVar 1) (aCons (eLst (aCons (eC (.str [])) (aCons (eC (.str [41])) (aCons (eC (.str [32, 49, 41])) (aCons (eC (.str [48, 41])) (aCons (eC (.str [32])) (aNil))))))) (aNil))))))) (sDrop (eM1 "list" mAppend (eVar 9) (eM1 "str" mJoin (eC (.str [])) (eLc (iRng1 (eCall m__law_draw (aCons (eVar 1) (aCons (eC (.int 12)) (aNil))))) (gNm 13) (tYes) (e_law_0) [13]))))))
def e_law_1 : E := eVar 6
def t_law_0 : T := tNot (tB (eCall m__law_asked (aCons (eVar 6) (aNil))))
def m_law : List AV → M AV := mDef 1 14 (sSeq (sAsg (eCall m__law_begin (aCons (eVar 0) (aNil))) (gNm 1)) (sSeq (sAsg (eCall m__law_leaf_made (aCons (eVar 1) (aNil))) (gNm 2)) (sSeq (sIf (tB (eOp2 oGt (eCall m__law_draw (aCons (eVar 1) (aCons (eC (.int 6)) (aNil)))) (eC (.int 0)))) (sAsg (eCall m__law_made (aCons (eVar 1) (aCons (eCall m__law_pick (aCons (eVar 1) (aCons (eLst (aCons (eC (.int 0)) (aCons (eC (.int 1)) (aCons (eC (.int 3)) (aCons (eC (.int 6)) (aCons (eC (.int 12)) (aCons (eC (.int 30)) (aCons (eC (.int 60)) (aNil))))))))) (aNil)))) (aNil)))) (gNm 2)) (sNx)) (sSeq (sAsg (eCall m__law_wrapped (aCons (eVar 1) (aCons (eVar 2) (aCons (eCall m__law_pick (aCons (eVar 1) (aCons (eLst (aCons (eC (.int 0)) (aCons (eC (.int 0)) (aCons (eC (.int 0)) (aCons (eC (.int 2)) (aCons (eC (.int 40)) (aNil))))))) (aNil)))) (aNil))))) (gNm 2)) (sSeq (sAsg (eVar 2) (gTp [gNm 3, gNm 4])) (sSeq (sAsg (eCall m__law_wrapped (aCons (eVar 1) (aCons (eCall m__law_made (aCons (eVar 1) (aCons (eC (.int 4)) (aNil)))) (aCons (eC (.int 1)) (aNil))))) (gNm 5)) (sSeq (sFor (iSeq (eLst (aCons (eVar 2) (aCons (eVar 5) (aCons (eVar 2) (aNil)))))) (gNm 6) (s_law_0)) (sSeq (sAsg (eTup (aCons (eOp2 oSub (eOp2 oPow (eC (.int 10)) (eC (.int 30))) (eC (.int 1))) (aCons (eOp2 oSub (eC (.int 1)) (eOp2 oPow (eC (.int 10)) (eC (.int 30)))) (aCons (eVar 3) (aNil))))) (gNm 7)) (sSeq (sIf (tB (eOp2 oNe (eCall m_write_value (aCons (eVar 7) (aNil))) (eOp2 oAdd (eOp2 oAdd (eOp2 oAdd (eOp2 oAdd (eOp2 oAdd (eOp2 oAdd (eC (.str [40])) (eOp2 oMul (eC (.str [57])) (eC (.int 30)))) (eC (.str [32, 45]))) (eOp2 oMul (eC (.str [57])) (eC (.int 30)))) (eC (.str [32]))) (eVar 4)) (eC (.str [41]))))) (sRet (eC (.bl false))) (sNx)) (sSeq (sAsg (eCall m__law_bad_leaf (aCons (eVar 1) (aNil))) (gNm 8)) (sSeq (sFor (iSeq (eLst (aCons (eVar 8) (aCons (eTup (aCons (eVar 3) (aCons (eVar 8) (aNil)))) (aCons (eOp2 oAdd (eTup (aCons (eVar 8) (aNil))) (eVar 7)) (aCons (eTup (aCons (eTup (aNil)) (aCons (eTup (aCons (eTup (aCons (eVar 3) (aCons (eTup (aCons (eVar 8) (aCons (eC (.int 0)) (aNil)))) (aNil)))) (aNil))) (aNil)))) (aCons (eOp2 oPow (eC (.int 10)) (eC (.int 30))) (aCons (eTup (aCons (eVar 3) (aCons (eOp1 oNeg (eOp2 oPow (eC (.int 10)) (eC (.int 30)))) (aNil)))) (aNil))))))))) (gNm 6) (s_law_1)) (sSeq (sAsg (eLstC (aCons (eVar 4) (aCons (eOp2 oAdd (eVar 4) (eCall m__law_pick (aCons (eVar 1) (aCons (eC (.str [40, 41, 32, 39, 45, 48, 59])) (aNil))))) (aCons (eOp2 oAdd (eCall m__law_pick (aCons (eVar 1) (aCons (eC (.str [32, 40, 48, 45, 39])) (aNil)))) (eVar 4)) (aNil))))) (gNm 9)) (sSeq (sFor (iRng1 (eC (.int 4))) (gNm 10) (s_law_2)) (sRet (eOp2 oEq (eCall cLen (aCons (eLc (iSeq (eVar 9)) (gNm 6) (t_law_0) (e_law_1) [6]) (aNil))) (eC (.int 0)))))))))))))))))
end Lk94

end

section
set_option maxHeartbeats 4000000
namespace Lk94
open PySem PySem.Spec L2 MiS
open PyProof.Rows hiding St
open Mi MiL
def top (i : Nat) : Stmt := PySem.Challenge.pw_deedoath_k94_values_written.main.body.getD i (.Pass ⟨0, 0, 0, 0⟩)
def flds : List PySem.Str := [PySem.Str.ofString "at"]
structure Txt (P : Program) (K : Fg) (mg : PySem.Str → Option Value) (cl : String → Value) : Prop where
  b_abs : mg "abs" = none
  b_bool : mg "bool" = none
  b_int : mg "int" = none
  b_isinstance : mg "isinstance" = none
  b_len : mg "len" = none
  b_list : mg "list" = none
  b_ord : mg "ord" = none
  b_range : mg "range" = none
  b_str : mg "str" = none
  b_tuple : mg "tuple" = none
  c_BARRED_SIGNS : KTv K mg "BARRED_SIGNS" [.int 37, .int 39, .int 59]
  c_FIGURES : ∃ t, mg "FIGURES" = some (.str ⟨[48, 49, 50, 51, 52, 53, 54, 55, 56, 57].toArray⟩ t)
  c_MOST_FIGURES : ∃ t, mg "MOST_FIGURES" = some (.int 30 t)
  tab : XTab K ⟨cl, none⟩ sub flds
  mgc_DeedError : mg "DeedError" = some (cl "DeedError")
  mg_DeedError : mg "DeedError" = some (.ref (rf (cl "DeedError")))
  cl_DeedError : cl "DeedError" = .ref (rf (cl "DeedError"))
  mgc_BadValue : mg "BadValue" = some (cl "BadValue")
  mg_BadValue : mg "BadValue" = some (.ref (rf (cl "BadValue")))
  cl_BadValue : cl "BadValue" = .ref (rf (cl "BadValue"))
  x_BadValue : XDef P K mg cl "BadValue" ["at"]
  d__law_begin : DF K mg "_law_begin" "_law_begin" (top 18) ["script"]
  d__law_draw : DF K mg "_law_draw" "_law_draw" (top 19) ["d", "many"]
  d__law_pick : DF K mg "_law_pick" "_law_pick" (top 20) ["d", "row"]
  d__law_number : DF K mg "_law_number" "_law_number" (top 24) ["d", "many"]
  d__law_signs : DF K mg "_law_signs" "_law_signs" (top 23) []
  d__law_leaf_made : DF K mg "_law_leaf_made" "_law_leaf_made" (top 25) ["d"]
  d__law_wrapped : DF K mg "_law_wrapped" "_law_wrapped" (top 27) ["d", "pair", "many"]
  d__law_bad_leaf : DF K mg "_law_bad_leaf" "_law_bad_leaf" (top 33) ["d"]
  d__law_made : DF K mg "_law_made" "_law_made" (top 26) ["d", "many"]
  d_is_written_sign : DF K mg "is_written_sign" "is_written_sign" (top 8) ["sign"]
  d_write_text : DF K mg "write_text" "write_text" (top 9) ["text"]
  d_write_leaf : DF K mg "write_leaf" "write_leaf" (top 10) ["value"]
  d_write_value : DF K mg "write_value" "write_value" (top 11) ["value"]
  d__law_is_int : DF K mg "_law_is_int" "_law_is_int" (top 21) ["thing"]
  d__law_refuses : DF K mg "_law_refuses" "_law_refuses" (top 32) ["value"]
  d__law_turned : DF K mg "_law_turned" "_law_turned" (top 34) ["d", "text"]
  d__law_same : DF K mg "_law_same" "_law_same" (top 22) ["one", "other"]
  d_is_plain : DF K mg "is_plain" "is_plain" (top 7) ["value"]
  d_closed_tuples : DF K mg "closed_tuples" "closed_tuples" (top 15) ["text", "at", "made", "value"]
  d_figures_end : DF K mg "figures_end" "figures_end" (top 13) ["text", "at"]
  d_read_text : DF K mg "read_text" "read_text" (top 12) ["text", "at"]
  d_read_leaf : DF K mg "read_leaf" "read_leaf" (top 14) ["text", "at"]
  d_read_value : DF K mg "read_value" "read_value" (top 16) ["text"]
  d__law_odd : DF K mg "_law_odd" "_law_odd" (top 35) ["d", "value"]
  d__law_leaf_of : DF K mg "_law_leaf_of" "_law_leaf_of" (top 29) ["word"]
  d__law_goes_on : DF K mg "_law_goes_on" "_law_goes_on" (top 28) ["word", "sign"]
  d__law_read : DF K mg "_law_read" "_law_read" (top 30) ["text"]
  d__law_asked : DF K mg "_law_asked" "_law_asked" (top 31) ["text"]
  d_law : DF K mg "law" "law" (top 36) ["script"]
section
variable {P : Program} {w : World} {K : Fg} {mg : PySem.Str → Option Value} {base : Heap} {cl : String → Value}
abbrev st__law_begin : Stmt := top 18
theorem sc__law_begin : FnScope ["script", "cell"] ["script"] (defScope st__law_begin) := ⟨rfl, rfl, rfl, by decide +kernel, rfl, by decide +kernel, by decide +kernel⟩
theorem ok__law_begin (T : Txt P K mg cl) : FOk P w K mg base cl 1 "_law_begin" m__law_begin := okM T.d__law_begin sc__law_begin fun f cdv A outer s H E hr => (
    qss_one (qs_ret (q_lstC (qa_cons (q_lc (own := [("cell", 1)]) rfl sc__law_begin.nd (qi_seq (q_slice (q_var 0) qo_none (qo_some (q_int)))) (blkOk_by (by kernel_rfl)) (fun _ _ _ _ _ => qgw_nm (i := 1) sc__law_begin.nd rfl (by first | exact Or.inl rfl | exact Or.inr rfl) (by decide)) (fun _ _ _ _ _ => qts_nil) (fun _ _ _ _ _ => q_callTy call_intM nx_int1 rfl T.b_int (by decide +kernel) (qa_cons (q_var 1) (qa_nil)))) (qa_cons (q_int) (qa_cons (q_int) (qa_cons (q_int) (qa_nil))))))))
abbrev st__law_draw : Stmt := top 19
theorem sc__law_draw : FnScope ["d", "many", "size", "found", "cell"] ["d", "many"] (defScope st__law_draw) := ⟨rfl, rfl, rfl, by decide +kernel, rfl, by decide +kernel, by decide +kernel⟩
theorem ok__law_draw (T : Txt P K mg cl) : FOk P w K mg base cl 1 "_law_draw" m__law_draw := okM T.d__law_draw sc__law_draw fun f cdv A outer s H E hr => (
    qss_cons (qs_if (qt_cmp op_gtM nx_gt (q_ix (hu_of hr) (q_var 0) (q_int) (fun _ _ => rfl)) (q_int) (nomark _))
    (qss_cons (qs_set (i := 3) sc__law_draw.nd rfl (by first | exact Or.inl rfl | exact Or.inr rfl) (q_ix (hu_of hr) (q_var 0) (q_int) (fun _ _ => rfl)))
    (qss_cons (qs_setIx (hu_of hr) (q_op op_fdivM nx_fdiv (q_var 3) (q_var 1)) (q_var 0) (q_int))
    (qss_one (qs_ret (q_op op_modM nx_mod (q_callTy call_intM nx_int1 rfl T.b_int (by decide +kernel) (qa_cons (q_var 3) (qa_nil))) (q_var 1))))))
    (qss_nil))
    (qss_cons (qs_set (i := 2) sc__law_draw.nd rfl (by first | exact Or.inl rfl | exact Or.inr rfl) (q_int))
    (qss_cons (qs_if (qt_cmp op_ltM nx_lt (q_ix (hu_of hr) (q_var 0) (q_int) (fun _ _ => rfl)) (q_callB call_lenM nx_len rfl T.b_len (by decide +kernel) (qa_cons (q_ix (hu_of hr) (q_var 0) (q_int) (fun _ _ => rfl)) (qa_nil))) (nomark _))
    (qss_cons (qs_set (i := 4) sc__law_draw.nd rfl (by first | exact Or.inl rfl | exact Or.inr rfl) (q_ix (hu_of hr) (q_ix (hu_of hr) (q_var 0) (q_int) (fun _ _ => rfl)) (q_ix (hu_of hr) (q_var 0) (q_int) (fun _ _ => rfl)) (fun _ _ => rfl)))
    (qss_one (qs_set (i := 2) sc__law_draw.nd rfl (by first | exact Or.inl rfl | exact Or.inr rfl) (q_op op_addM nx_add (q_op op_mulM nx_mul (q_int) (q_callB call_absM nx_abs rfl T.b_abs (by decide +kernel) (qa_cons (q_var 4) (qa_nil)))) (q_callTy call_intM nx_int1 rfl T.b_int (by decide +kernel) (qa_cons (q_cmp op_ltM nx_lt (q_var 4) (q_int) (nomark _)) (qa_nil)))))))
    (qss_nil))
    (qss_cons (qs_augIx (hu_of hr) (q_var 0) (q_int) (q_int) iop_addM nx_iadd)
    (qss_cons (qs_if (qt_cmp op_geM nx_ge (q_var 2) (q_op op_mulM nx_mul (q_int) (q_op op_powM nx_pow (q_int) (q_int))) (nomark _))
    (qss_cons (qs_set (i := 3) sc__law_draw.nd rfl (by first | exact Or.inl rfl | exact Or.inr rfl) (q_op op_modM nx_mod (q_callTy call_intM nx_int1 rfl T.b_int (by decide +kernel) (qa_cons (q_op op_fdivM nx_fdiv (q_var 2) (q_int)) (qa_nil))) (q_op op_shlM nx_shl (q_int) (q_int))))
    (qss_cons (qs_setIx (hu_of hr) (q_op op_fdivM nx_fdiv (q_var 3) (q_var 1)) (q_var 0) (q_int))
    (qss_one (qs_ret (q_op op_modM nx_mod (q_callTy call_intM nx_int1 rfl T.b_int (by decide +kernel) (qa_cons (q_var 3) (qa_nil))) (q_var 1))))))
    (qss_nil))
    (qss_cons (qs_setIx (hu_of hr) (q_op op_modM nx_mod (q_callTy call_intM nx_int1 rfl T.b_int (by decide +kernel) (qa_cons (q_op op_addM nx_add (q_op op_addM nx_add (q_op op_addM nx_add (q_op op_mulM nx_mul (q_ix (hu_of hr) (q_var 0) (q_int) (fun _ _ => rfl)) (q_int)) (q_op op_mulM nx_mul (q_op op_modM nx_mod (q_callTy call_intM nx_int1 rfl T.b_int (by decide +kernel) (qa_cons (q_var 2) (qa_nil))) (q_int)) (q_int))) (q_op op_mulM nx_mul (q_ix (hu_of hr) (q_var 0) (q_int) (fun _ _ => rfl)) (q_int))) (q_int)) (qa_nil))) (q_int)) (q_var 0) (q_int))
    (qss_one (qs_ret (q_op op_modM nx_mod (q_callTy call_intM nx_int1 rfl T.b_int (by decide +kernel) (qa_cons (q_op op_fdivM nx_fdiv (q_ix (hu_of hr) (q_var 0) (q_int) (fun _ _ => rfl)) (q_int)) (qa_nil))) (q_var 1))))))))))
abbrev st__law_pick : Stmt := top 20
theorem sc__law_pick : FnScope ["d", "row"] ["d", "row"] (defScope st__law_pick) := ⟨rfl, rfl, rfl, by decide +kernel, rfl, by decide +kernel, by decide +kernel⟩
theorem ok__law_pick (T : Txt P K mg cl) : FOk P w K mg base cl 2 "_law_pick" m__law_pick := okM T.d__law_pick sc__law_pick fun f cdv A outer s H E hr => (
    qss_one (qs_ret (q_ix (hu_of hr) (q_var 1) (q_call ((ok__law_draw T).mono (by first | decide | exact Nat.le_add_right _ _ | omega)) hr (L2N.takes_of rfl rfl rfl rfl) rfl (qa_cons (q_var 0) (qa_cons (q_callB call_lenM nx_len rfl T.b_len (by decide +kernel) (qa_cons (q_var 1) (qa_nil))) (qa_nil)))) (fun _ _ => rfl))))
abbrev st__law_number : Stmt := top 24
theorem sc__law_number : FnScope ["d", "many", "word", "k"] ["d", "many"] (defScope st__law_number) := ⟨rfl, rfl, rfl, by decide +kernel, rfl, by decide +kernel, by decide +kernel⟩
theorem ok__law_number (T : Txt P K mg cl) : FOk P w K mg base cl 3 "_law_number" m__law_number := okM T.d__law_number sc__law_number fun f cdv A outer s H E hr => (
    qss_cons (qs_set (i := 2) sc__law_number.nd rfl (by first | exact Or.inl rfl | exact Or.inr rfl) (q_op op_addM nx_add (q_callTy call_strM nx_str rfl T.b_str (by decide +kernel) (qa_cons (q_op op_addM nx_add (q_int) (q_call ((ok__law_draw T).mono (by first | decide | exact Nat.le_add_right _ _ | omega)) hr (L2N.takes_of rfl rfl rfl rfl) rfl (qa_cons (q_var 0) (qa_cons (q_int) (qa_nil))))) (qa_nil))) (q_m1 PySem.F.plainAttrs_str PySem.F.slot_str_join PySem.F.type_str_join mt_joinM nx_join (q_str []) (q_lc (own := [("k", 3)]) rfl sc__law_number.nd (qi_rng1 rfl T.b_range (q_op op_subM nx_sub (q_var 1) (q_int))) (blkOk_by (by kernel_rfl)) (fun _ _ _ _ _ => qgw_nm (i := 3) sc__law_number.nd rfl (by first | exact Or.inl rfl | exact Or.inr rfl) (by decide)) (fun _ _ _ _ _ => qts_nil) (fun _ _ _ _ _ => q_callTy call_strM nx_str rfl T.b_str (by decide +kernel) (qa_cons (q_call ((ok__law_draw T).mono (by first | decide | exact Nat.le_add_right _ _ | omega)) hr takesN rfl (qa_cons (q_var 0) (qa_cons (q_int) (qa_nil)))) (qa_nil)))))))
    (qss_cons (qs_if (qt_w (qw_and (qt_cmp (op_eqM hr.units) nx_eq (q_var 1) (q_int) (nomark _)) (qw_and1 (qt_cmp (op_eqM hr.units) nx_eq (q_call ((ok__law_draw T).mono (by first | decide | exact Nat.le_add_right _ _ | omega)) hr (L2N.takes_of rfl rfl rfl rfl) rfl (qa_cons (q_var 0) (qa_cons (q_int) (qa_nil)))) (q_int) (nomark _)))))
    (qss_one (qs_ret (q_str [48])))
    (qss_nil))
    (qss_one (qs_ret (q_op op_addM nx_add (q_call ((ok__law_pick T).mono (by first | decide | exact Nat.le_add_right _ _ | omega)) hr (L2N.takes_of rfl rfl rfl rfl) rfl (qa_cons (q_var 0) (qa_cons (q_lst (qa_cons (q_str []) (qa_cons (q_str []) (qa_cons (q_str [45]) (qa_nil))))) (qa_nil)))) (q_var 2))))))
abbrev st__law_signs : Stmt := top 23
theorem sc__law_signs : FnScope ["text"] [] (defScope st__law_signs) := ⟨rfl, rfl, rfl, by decide +kernel, rfl, by decide +kernel, by decide +kernel⟩
theorem ok__law_signs (T : Txt P K mg cl) : FOk P w K mg base cl 1 "_law_signs" m__law_signs := okM T.d__law_signs sc__law_signs fun f cdv A outer s H E hr => (
    qss_cons (qs_set (i := 0) sc__law_signs.nd rfl (by first | exact Or.inl rfl | exact Or.inr rfl) (q_str [32, 33, 34, 35, 36, 38, 40, 41, 42, 43, 44, 45, 46, 47, 48, 49, 50, 51, 52, 53, 54, 55, 56, 57, 58, 60, 61, 62, 63, 64, 65, 66, 67, 68, 69, 70, 71, 72, 73, 74, 75, 76, 77, 78, 79, 80, 81, 82, 83, 84, 85, 86, 87, 88, 89, 90, 91, 92, 93, 94, 95, 96]))
    (qss_one (qs_ret (q_op op_addM nx_add (q_var 0) (q_str [97, 98, 99, 100, 101, 102, 103, 104, 105, 106, 107, 108, 109, 110, 111, 112, 113, 114, 115, 116, 117, 118, 119, 120, 121, 122, 123, 124, 125, 126])))))
abbrev st__law_leaf_made : Stmt := top 25
theorem sc__law_leaf_made : FnScope ["d", "kind", "signs", "text", "word", "k"] ["d"] (defScope st__law_leaf_made) := ⟨rfl, rfl, rfl, by decide +kernel, rfl, by decide +kernel, by decide +kernel⟩
theorem ok__law_leaf_made (T : Txt P K mg cl) : FOk P w K mg base cl 4 "_law_leaf_made" m__law_leaf_made := okM T.d__law_leaf_made sc__law_leaf_made fun f cdv A outer s H E hr => (
    qss_cons (qs_set (i := 1) sc__law_leaf_made.nd rfl (by first | exact Or.inl rfl | exact Or.inr rfl) (q_call ((ok__law_draw T).mono (by first | decide | exact Nat.le_add_right _ _ | omega)) hr (L2N.takes_of rfl rfl rfl rfl) rfl (qa_cons (q_var 0) (qa_cons (q_int) (qa_nil)))))
    (qss_cons (qs_if (qt_cmp (op_eqM hr.units) nx_eq (q_var 1) (q_int) (nomark _))
    (qss_one (qs_ret (q_tup (qa_cons (q_non) (qa_cons (q_str [45]) (qa_nil))))))
    (qss_nil))
    (qss_cons (qs_if (qt_cmp op_ltM nx_lt (q_var 1) (q_int) (nomark _))
    (qss_cons (qs_set (i := 4) sc__law_leaf_made.nd rfl (by first | exact Or.inl rfl | exact Or.inr rfl) (q_call ((ok__law_number T).mono (by first | decide | exact Nat.le_add_right _ _ | omega)) hr (L2N.takes_of rfl rfl rfl rfl) rfl (qa_cons (q_var 0) (qa_cons (q_call ((ok__law_pick T).mono (by first | decide | exact Nat.le_add_right _ _ | omega)) hr (L2N.takes_of rfl rfl rfl rfl) rfl (qa_cons (q_var 0) (qa_cons (q_lst (qa_cons (q_int) (qa_cons (q_int) (qa_cons (q_int) (qa_cons (q_int) (qa_cons (q_int) (qa_cons (q_int) (qa_cons (q_int) (qa_cons (q_int) (qa_nil)))))))))) (qa_nil)))) (qa_nil)))))
    (qss_one (qs_ret (q_tup (qa_cons (q_callTy call_intM nx_int1 rfl T.b_int (by decide +kernel) (qa_cons (q_var 4) (qa_nil))) (qa_cons (q_var 4) (qa_nil)))))))
    (qss_nil))
    (qss_cons (qs_set (i := 2) sc__law_leaf_made.nd rfl (by first | exact Or.inl rfl | exact Or.inr rfl) (q_op op_addM nx_add (q_call0 ((ok__law_signs T).mono (by first | decide | exact Nat.le_add_right _ _ | omega)) hr (L2N.takes_of rfl rfl rfl rfl) rfl) (q_str [10, 10])))
    (qss_cons (qs_set (i := 3) sc__law_leaf_made.nd rfl (by first | exact Or.inl rfl | exact Or.inr rfl) (q_m1 PySem.F.plainAttrs_str PySem.F.slot_str_join PySem.F.type_str_join mt_joinM nx_join (q_str []) (q_lc (own := [("k", 5)]) rfl sc__law_leaf_made.nd (qi_rng1 rfl T.b_range (q_call ((ok__law_pick T).mono (by first | decide | exact Nat.le_add_right _ _ | omega)) hr (L2N.takes_of rfl rfl rfl rfl) rfl (qa_cons (q_var 0) (qa_cons (q_lst (qa_cons (q_int) (qa_cons (q_int) (qa_cons (q_int) (qa_cons (q_int) (qa_cons (q_int) (qa_cons (q_int) (qa_nil)))))))) (qa_nil))))) (blkOk_by (by kernel_rfl)) (fun _ _ _ _ _ => qgw_nm (i := 5) sc__law_leaf_made.nd rfl (by first | exact Or.inl rfl | exact Or.inr rfl) (by decide)) (fun _ _ _ _ _ => qts_nil) (fun _ _ _ _ _ => q_call ((ok__law_pick T).mono (by first | decide | exact Nat.le_add_right _ _ | omega)) hr takesN rfl (qa_cons (q_var 0) (qa_cons (q_var 2) (qa_nil)))))))
    (qss_one (qs_ret (q_tup (qa_cons (q_var 3) (qa_cons (q_op op_addM nx_add (PEk.pe (k_opL op_addM nx_add (k_str [39]) (qt_repl 10 [59] (qt_of (q_var 3))))) (q_str [39])) (qa_nil)))))))))))
abbrev st__law_wrapped : Stmt := top 27
theorem sc__law_wrapped : FnScope ["d", "pair", "many", "value", "text", "k", "kind"] ["d", "pair", "many"] (defScope st__law_wrapped) := ⟨rfl, rfl, rfl, by decide +kernel, rfl, by decide +kernel, by decide +kernel⟩
theorem ok__law_wrapped (T : Txt P K mg cl) : FOk P w K mg base cl 2 "_law_wrapped" m__law_wrapped := okM T.d__law_wrapped sc__law_wrapped fun f cdv A outer s H E hr => (
    qss_cons (qs_asg (q_var 1) (qg_tp rfl (qgs_cons (qg_nm (i := 3) sc__law_wrapped.nd rfl (by first | exact Or.inl rfl | exact Or.inr rfl)) (qgs_cons (qg_nm (i := 4) sc__law_wrapped.nd rfl (by first | exact Or.inl rfl | exact Or.inr rfl)) (qgs_nil)))))
    (qss_cons (qs_for (passes_of rfl) rfl (qi_rng1 rfl T.b_range (q_var 2)) (qg_nm (i := 5) sc__law_wrapped.nd rfl (by first | exact Or.inl rfl | exact Or.inr rfl))
    (qss_cons (qs_set (i := 6) sc__law_wrapped.nd rfl (by first | exact Or.inl rfl | exact Or.inr rfl) (q_call ((ok__law_draw T).mono (by first | decide | exact Nat.le_add_right _ _ | omega)) hr (L2N.takes_of rfl rfl rfl rfl) rfl (qa_cons (q_var 0) (qa_cons (q_int) (qa_nil)))))
    (qss_one (qs_if (qt_cmp (op_eqM hr.units) nx_eq (q_var 6) (q_int) (nomark _))
    (qss_one (qs_par (i := 3) (j := 4) rfl sc__law_wrapped.nd rfl rfl (by decide) rfl rfl (q_tup (qa_cons (q_var 3) (qa_cons (q_non) (qa_nil)))) (q_op op_addM nx_add (q_op op_addM nx_add (q_str [40]) (q_var 4)) (q_str [32, 45, 41])) rfl))
    (qss_one (qs_if (qt_cmp (op_eqM hr.units) nx_eq (q_var 6) (q_int) (nomark _))
    (qss_one (qs_par (i := 3) (j := 4) rfl sc__law_wrapped.nd rfl rfl (by decide) rfl rfl (q_tup (qa_cons (q_str []) (qa_cons (q_var 3) (qa_nil)))) (q_op op_addM nx_add (q_op op_addM nx_add (q_str [40, 39, 39, 32]) (q_var 4)) (q_str [41])) rfl))
    (qss_one (qs_par (i := 3) (j := 4) rfl sc__law_wrapped.nd rfl rfl (by decide) rfl rfl (q_tup (qa_cons (q_var 3) (qa_nil))) (q_op op_addM nx_add (q_op op_addM nx_add (q_str [40]) (q_var 4)) (q_str [41])) rfl))))))))
    (qss_one (qs_ret (q_tup (qa_cons (q_var 3) (qa_cons (q_var 4) (qa_nil))))))))
abbrev st__law_bad_leaf : Stmt := top 33
theorem sc__law_bad_leaf : FnScope ["d", "text", "at", "k"] ["d"] (defScope st__law_bad_leaf) := ⟨rfl, rfl, rfl, by decide +kernel, rfl, by decide +kernel, by decide +kernel⟩
theorem ok__law_bad_leaf (T : Txt P K mg cl) : FOk P w K mg base cl 4 "_law_bad_leaf" m__law_bad_leaf := okM T.d__law_bad_leaf sc__law_bad_leaf fun f cdv A outer s H E hr => (
    qss_cons (qs_if (qt_cmp (op_eqM hr.units) nx_eq (q_call ((ok__law_draw T).mono (by first | decide | exact Nat.le_add_right _ _ | omega)) hr (L2N.takes_of rfl rfl rfl rfl) rfl (qa_cons (q_var 0) (qa_cons (q_int) (qa_nil)))) (q_int) (nomark _))
    (qss_one (qs_ret (q_callTy call_intM nx_int1 rfl T.b_int (by decide +kernel) (qa_cons (PEk.pe (k_opL op_addM nx_add (k_opR op_addM nx_add (q_call ((ok__law_pick T).mono (by first | decide | exact Nat.le_add_right _ _ | omega)) hr (L2N.takes_of rfl rfl rfl rfl) rfl (qa_cons (q_var 0) (qa_cons (q_lst (qa_cons (q_str []) (qa_cons (q_str [45]) (qa_nil)))) (qa_nil)))) (k_callTy call_strM nx_str rfl T.b_str (by decide +kernel) (k_opL op_addM nx_add (k_int) (qt_of (q_call ((ok__law_draw T).mono (by first | decide | exact Nat.le_add_right _ _ | omega)) hr (L2N.takes_of rfl rfl rfl rfl) rfl (qa_cons (q_var 0) (qa_cons (q_int) (qa_nil)))))))) (qt_repl 45 [] (qt_of (q_call ((ok__law_number T).mono (by first | decide | exact Nat.le_add_right _ _ | omega)) hr (L2N.takes_of rfl rfl rfl rfl) rfl (qa_cons (q_var 0) (qa_cons (q_int) (qa_nil)))))))) (qa_nil)))))
    (qss_nil))
    (qss_cons (qs_set (i := 1) sc__law_bad_leaf.nd rfl (by first | exact Or.inl rfl | exact Or.inr rfl) (q_m1 PySem.F.plainAttrs_str PySem.F.slot_str_join PySem.F.type_str_join mt_joinM nx_join (q_str []) (q_lc (own := [("k", 3)]) rfl sc__law_bad_leaf.nd (qi_rng1 rfl T.b_range (q_call ((ok__law_draw T).mono (by first | decide | exact Nat.le_add_right _ _ | omega)) hr (L2N.takes_of rfl rfl rfl rfl) rfl (qa_cons (q_var 0) (qa_cons (q_int) (qa_nil))))) (blkOk_by (by kernel_rfl)) (fun _ _ _ _ _ => qgw_nm (i := 3) sc__law_bad_leaf.nd rfl (by first | exact Or.inl rfl | exact Or.inr rfl) (by decide)) (fun _ _ _ _ _ => qts_nil) (fun _ _ _ _ _ => q_call ((ok__law_pick T).mono (by first | decide | exact Nat.le_add_right _ _ | omega)) hr takesN rfl (qa_cons (q_var 0) (qa_cons (q_op op_addM nx_add (q_call0 ((ok__law_signs T).mono (by first | decide | exact Nat.le_add_right _ _ | omega)) hr takesN rfl) (q_str [10])) (qa_nil)))))))
    (qss_cons (qs_set (i := 2) sc__law_bad_leaf.nd rfl (by first | exact Or.inl rfl | exact Or.inr rfl) (q_call ((ok__law_draw T).mono (by first | decide | exact Nat.le_add_right _ _ | omega)) hr (L2N.takes_of rfl rfl rfl rfl) rfl (qa_cons (q_var 0) (qa_cons (q_op op_addM nx_add (q_callB call_lenM nx_len rfl T.b_len (by decide +kernel) (qa_cons (q_var 1) (qa_nil))) (q_int)) (qa_nil)))))
    (qss_one (qs_ret (q_op op_addM nx_add (q_op op_addM nx_add (q_slice (q_var 1) qo_none (qo_some (q_var 2))) (q_call ((ok__law_pick T).mono (by first | decide | exact Nat.le_add_right _ _ | omega)) hr (L2N.takes_of rfl rfl rfl rfl) rfl (qa_cons (q_var 0) (qa_cons (q_str [39, 59, 9]) (qa_nil))))) (q_slice (q_var 1) (qo_some (q_var 2)) qo_none)))))))
abbrev st__law_made : Stmt := top 26
theorem sc__law_made : FnScope ["d", "many", "rows", "text", "k", "kind", "made", "pair"] ["d", "many"] (defScope st__law_made) := ⟨rfl, rfl, rfl, by decide +kernel, rfl, by decide +kernel, by decide +kernel⟩
theorem ok__law_made (T : Txt P K mg cl) : FOk P w K mg base cl 5 "_law_made" m__law_made := okM T.d__law_made sc__law_made fun f cdv A outer s H E hr => (
    qss_cons (qs_set (i := 2) sc__law_made.nd rfl (by first | exact Or.inl rfl | exact Or.inr rfl) (q_lstC (qa_cons (q_lstC (qa_nil)) (qa_nil))))
    (qss_cons (qs_set (i := 3) sc__law_made.nd rfl (by first | exact Or.inl rfl | exact Or.inr rfl) (q_str [40]))
    (qss_cons (qs_for (passes_of rfl) rfl (qi_rng1 rfl T.b_range (q_var 1)) (qg_nm (i := 4) sc__law_made.nd rfl (by first | exact Or.inl rfl | exact Or.inr rfl))
    (qss_cons (qs_set (i := 5) sc__law_made.nd rfl (by first | exact Or.inl rfl | exact Or.inr rfl) (q_call ((ok__law_draw T).mono (by first | decide | exact Nat.le_add_right _ _ | omega)) hr (L2N.takes_of rfl rfl rfl rfl) rfl (qa_cons (q_var 0) (qa_cons (q_int) (qa_nil)))))
    (qss_one (qs_if (qt_w (qw_and (qt_cmp (op_eqM hr.units) nx_eq (q_var 5) (q_int) (nomark _)) (qw_and1 (qt_cmp op_gtM nx_gt (q_callB call_lenM nx_len rfl T.b_len (by decide +kernel) (qa_cons (q_var 2) (qa_nil))) (q_int) (nomark _)))))
    (qss_cons (qs_set (i := 6) sc__law_made.nd rfl (by first | exact Or.inl rfl | exact Or.inr rfl) (q_callTy call_tupleM nx_tuple rfl T.b_tuple (by decide +kernel) (qa_cons (q_m0 PySem.F.plainAttrs_list PySem.F.slot_list_pop PySem.F.type_list_pop mt_popM nx_pop ty1_pop (q_var 2)) (qa_nil))))
    (qss_cons (qs_expr (q_m1 PySem.F.plainAttrs_list PySem.F.slot_list_append PySem.F.type_list_append mt_appendM nx_append (q_ix (hu_of hr) (q_var 2) (q_un un_negM nx_neg (q_int)) (fun _ _ => rfl)) (q_var 6)))
    (qss_one (qs_set (i := 3) sc__law_made.nd rfl (by first | exact Or.inl rfl | exact Or.inr rfl) (q_op op_addM nx_add (q_var 3) (q_str [41]))))))
    (qss_cons (qs_if (qt_cmp op_gtM nx_gt (q_callB call_lenM nx_len rfl T.b_len (by decide +kernel) (qa_cons (q_ix (hu_of hr) (q_var 2) (q_un un_negM nx_neg (q_int)) (fun _ _ => rfl)) (qa_nil))) (q_int) (nomark _))
    (qss_one (qs_set (i := 3) sc__law_made.nd rfl (by first | exact Or.inl rfl | exact Or.inr rfl) (q_op op_addM nx_add (q_var 3) (q_str [32]))))
    (qss_nil))
    (qss_one (qs_if (qt_w (qw_and (qt_cmp op_ltM nx_lt (q_var 5) (q_int) (nomark _)) (qw_and1 (qt_cmp op_ltM nx_lt (q_callB call_lenM nx_len rfl T.b_len (by decide +kernel) (qa_cons (q_var 2) (qa_nil))) (q_int) (nomark _)))))
    (qss_cons (qs_expr (q_m1 PySem.F.plainAttrs_list PySem.F.slot_list_append PySem.F.type_list_append mt_appendM nx_append (q_var 2) (q_lstC (qa_nil))))
    (qss_one (qs_set (i := 3) sc__law_made.nd rfl (by first | exact Or.inl rfl | exact Or.inr rfl) (q_op op_addM nx_add (q_var 3) (q_str [40])))))
    (qss_cons (qs_set (i := 7) sc__law_made.nd rfl (by first | exact Or.inl rfl | exact Or.inr rfl) (q_call ((ok__law_leaf_made T).mono (by first | decide | exact Nat.le_add_right _ _ | omega)) hr (L2N.takes_of rfl rfl rfl rfl) rfl (qa_cons (q_var 0) (qa_nil))))
    (qss_cons (qs_expr (q_m1 PySem.F.plainAttrs_list PySem.F.slot_list_append PySem.F.type_list_append mt_appendM nx_append (q_ix (hu_of hr) (q_var 2) (q_un un_negM nx_neg (q_int)) (fun _ _ => rfl)) (q_ix (hu_of hr) (q_var 7) (q_int) (fun _ _ => rfl))))
    (qss_one (qs_set (i := 3) sc__law_made.nd rfl (by first | exact Or.inl rfl | exact Or.inr rfl) (q_op op_addM nx_add (q_var 3) (q_ix (hu_of hr) (q_var 7) (q_int) (fun _ _ => rfl))))))))))))))
    (qss_cons (qs_for (passes_of rfl) rfl (qi_rng1 rfl T.b_range (q_op op_subM nx_sub (q_callB call_lenM nx_len rfl T.b_len (by decide +kernel) (qa_cons (q_var 2) (qa_nil))) (q_int))) (qg_nm (i := 4) sc__law_made.nd rfl (by first | exact Or.inl rfl | exact Or.inr rfl))
    (qss_cons (qs_set (i := 6) sc__law_made.nd rfl (by first | exact Or.inl rfl | exact Or.inr rfl) (q_callTy call_tupleM nx_tuple rfl T.b_tuple (by decide +kernel) (qa_cons (q_m0 PySem.F.plainAttrs_list PySem.F.slot_list_pop PySem.F.type_list_pop mt_popM nx_pop ty1_pop (q_var 2)) (qa_nil))))
    (qss_cons (qs_expr (q_m1 PySem.F.plainAttrs_list PySem.F.slot_list_append PySem.F.type_list_append mt_appendM nx_append (q_ix (hu_of hr) (q_var 2) (q_un un_negM nx_neg (q_int)) (fun _ _ => rfl)) (q_var 6)))
    (qss_one (qs_set (i := 3) sc__law_made.nd rfl (by first | exact Or.inl rfl | exact Or.inr rfl) (q_op op_addM nx_add (q_var 3) (q_str [41])))))))
    (qss_one (qs_ret (q_tup (qa_cons (q_callTy call_tupleM nx_tuple rfl T.b_tuple (by decide +kernel) (qa_cons (q_ix (hu_of hr) (q_var 2) (q_int) (fun _ _ => rfl)) (qa_nil))) (qa_cons (q_op op_addM nx_add (q_var 3) (q_str [41])) (qa_nil))))))))))
abbrev st_is_written_sign : Stmt := top 8
theorem sc_is_written_sign : FnScope ["sign"] ["sign"] (defScope st_is_written_sign) := ⟨rfl, rfl, rfl, by decide +kernel, rfl, by decide +kernel, by decide +kernel⟩
theorem ok_is_written_sign (T : Txt P K mg cl) : FOk P w K mg base cl 1 "is_written_sign" m_is_written_sign := okM T.d_is_written_sign sc_is_written_sign fun f cdv A outer s H E hr => (
    qss_one (qs_ret (q_and (q_chain op_leM nx_le op_leM nx_le (q_int) (q_callB call_ordM nx_ord rfl T.b_ord (by decide +kernel) (qa_cons (q_var 0) (qa_nil))) (q_int)) (q_one (q_cmp (op_notInM (hu_of hr)) nx_notIn (q_callB call_ordM nx_ord rfl T.b_ord (by decide +kernel) (qa_cons (q_var 0) (qa_nil))) (q_globT T.c_BARRED_SIGNS rfl) (by with_unfolding_all rfl))))))
abbrev st_write_text : Stmt := top 9
theorem sc_write_text : FnScope ["text", "sign"] ["text"] (defScope st_write_text) := ⟨rfl, rfl, rfl, by decide +kernel, rfl, by decide +kernel, by decide +kernel⟩
theorem ok_write_text (T : Txt P K mg cl) : FOk P w K mg base cl 2 "write_text" m_write_text := okM T.d_write_text sc_write_text fun f cdv A outer s H E hr => (
    qss_cons (qs_for (passes_of rfl) rfl (qi_seq (q_var 0)) (qg_nm (i := 1) sc_write_text.nd rfl (by first | exact Or.inl rfl | exact Or.inr rfl))
    (qss_one (qs_if (qt_w (qw_and (qt_cmp (op_neM hr.units) nx_ne (q_var 1) (q_str [10]) (nomark _)) (qw_and1 (qt_not (qt_val (q_call ((ok_is_written_sign T).mono (by first | decide | exact Nat.le_add_right _ _ | omega)) hr (L2N.takes_of rfl rfl rfl rfl) rfl (qa_cons (q_var 1) (qa_nil))))))))
    (qss_one (qs_raiseX T.x_BadValue rfl hr (L2N.takes_of rfl rfl rfl rfl) (qa_cons (q_int) (qa_nil)) rfl))
    (qss_nil))))
    (qss_one (qs_ret (q_op op_addM nx_add (PEk.pe (k_opL op_addM nx_add (k_str [39]) (qt_repl 10 [59] (qt_of (q_var 0))))) (q_str [39])))))
abbrev st_write_leaf : Stmt := top 10
theorem sc_write_leaf : FnScope ["value", "limit"] ["value"] (defScope st_write_leaf) := ⟨rfl, rfl, rfl, by decide +kernel, rfl, by decide +kernel, by decide +kernel⟩
theorem ok_write_leaf (T : Txt P K mg cl) : FOk P w K mg base cl 3 "write_leaf" m_write_leaf := okM T.d_write_leaf sc_write_leaf fun f cdv A outer s H E hr => (
    qss_cons (qs_if (qt_isN (q_var 0))
    (qss_one (qs_ret (q_str [45])))
    (qss_nil))
    (qss_cons (qs_if (qt_val (q_isTy (t := "str") (by decide) rfl T.b_isinstance rfl T.b_str (by decide +kernel) (q_var 0)))
    (qss_one (qs_ret (q_call ((ok_write_text T).mono (by first | decide | exact Nat.le_add_right _ _ | omega)) hr (L2N.takes_of rfl rfl rfl rfl) rfl (qa_cons (q_var 0) (qa_nil)))))
    (qss_nil))
    (qss_cons (qs_set (i := 1) sc_write_leaf.nd rfl (by first | exact Or.inl rfl | exact Or.inr rfl) (q_op op_powM nx_pow (q_int) (q_int)))
    (qss_cons (qs_if (qt_not (qt_chain op_ltM nx_lt op_ltM nx_lt (q_op op_subM nx_sub (q_int) (q_var 1)) (q_var 0) (q_var 1)))
    (qss_one (qs_raiseX T.x_BadValue rfl hr (L2N.takes_of rfl rfl rfl rfl) (qa_cons (q_int) (qa_nil)) rfl))
    (qss_nil))
    (qss_one (qs_ret (q_callTy call_strM nx_str rfl T.b_str (by decide +kernel) (qa_cons (q_var 0) (qa_nil)))))))))
abbrev st_write_value : Stmt := top 11
theorem sc_write_value : FnScope ["value", "pieces", "waiting", "node", "place"] ["value"] (defScope st_write_value) := ⟨rfl, rfl, rfl, by decide +kernel, rfl, by decide +kernel, by decide +kernel⟩
theorem ok_write_value (T : Txt P K mg cl) : FOk P w K mg base cl 4 "write_value" m_write_value := okM T.d_write_value sc_write_value fun f cdv A outer s H E hr => (
    qss_cons (qs_set (i := 1) sc_write_value.nd rfl (by first | exact Or.inl rfl | exact Or.inr rfl) (q_lstC (qa_nil)))
    (qss_cons (qs_set (i := 2) sc_write_value.nd rfl (by first | exact Or.inl rfl | exact Or.inr rfl) (q_lstC (qa_cons (q_tup (qa_cons (q_var 0) (qa_cons (q_int) (qa_nil)))) (qa_nil))))
    (qss_cons (qs_while 1000000 (passes_of rfl) (qt_cmp op_gtM nx_gt (q_callB call_lenM nx_len rfl T.b_len (by decide +kernel) (qa_cons (q_var 2) (qa_nil))) (q_int) (nomark _))
    (qss_cons (qs_asg (q_m0 PySem.F.plainAttrs_list PySem.F.slot_list_pop PySem.F.type_list_pop mt_popM nx_pop ty1_pop (q_var 2)) (qg_tp rfl (qgs_cons (qg_nm (i := 3) sc_write_value.nd rfl (by first | exact Or.inl rfl | exact Or.inr rfl)) (qgs_cons (qg_nm (i := 4) sc_write_value.nd rfl (by first | exact Or.inl rfl | exact Or.inr rfl)) (qgs_nil)))))
    (qss_one (qs_if (qt_not (qt_val (q_isTy (t := "tuple") (by decide) rfl T.b_isinstance rfl T.b_tuple (by decide +kernel) (q_var 3))))
    (qss_one (qs_expr (q_m1 PySem.F.plainAttrs_list PySem.F.slot_list_append PySem.F.type_list_append mt_appendM nx_append (q_var 1) (q_call ((ok_write_leaf T).mono (by first | decide | exact Nat.le_add_right _ _ | omega)) hr (L2N.takes_of rfl rfl rfl rfl) rfl (qa_cons (q_var 3) (qa_nil))))))
    (qss_cons (qs_if (qt_cmp (op_eqM hr.units) nx_eq (q_var 4) (q_int) (nomark _))
    (qss_one (qs_expr (q_m1 PySem.F.plainAttrs_list PySem.F.slot_list_append PySem.F.type_list_append mt_appendM nx_append (q_var 1) (q_str [40]))))
    (qss_one (qs_if (qt_cmp op_ltM nx_lt (q_var 4) (q_callB call_lenM nx_len rfl T.b_len (by decide +kernel) (qa_cons (q_var 3) (qa_nil))) (nomark _))
    (qss_one (qs_expr (q_m1 PySem.F.plainAttrs_list PySem.F.slot_list_append PySem.F.type_list_append mt_appendM nx_append (q_var 1) (q_str [32]))))
    (qss_nil))))
    (qss_one (qs_if (qt_cmp op_ltM nx_lt (q_var 4) (q_callB call_lenM nx_len rfl T.b_len (by decide +kernel) (qa_cons (q_var 3) (qa_nil))) (nomark _))
    (qss_cons (qs_expr (q_m1 PySem.F.plainAttrs_list PySem.F.slot_list_append PySem.F.type_list_append mt_appendM nx_append (q_var 2) (q_tup (qa_cons (q_var 3) (qa_cons (q_op op_addM nx_add (q_var 4) (q_int)) (qa_nil))))))
    (qss_one (qs_expr (q_m1 PySem.F.plainAttrs_list PySem.F.slot_list_append PySem.F.type_list_append mt_appendM nx_append (q_var 2) (q_tup (qa_cons (q_ix (hu_of hr) (q_var 3) (q_var 4) (fun _ _ => rfl)) (qa_cons (q_int) (qa_nil))))))))
    (qss_one (qs_expr (q_m1 PySem.F.plainAttrs_list PySem.F.slot_list_append PySem.F.type_list_append mt_appendM nx_append (q_var 1) (q_str [41])))))))))))
    (qss_one (qs_ret (q_m1 PySem.F.plainAttrs_str PySem.F.slot_str_join PySem.F.type_str_join mt_joinM nx_join (q_str []) (q_var 1)))))))
abbrev st__law_is_int : Stmt := top 21
theorem sc__law_is_int : FnScope ["thing"] ["thing"] (defScope st__law_is_int) := ⟨rfl, rfl, rfl, by decide +kernel, rfl, by decide +kernel, by decide +kernel⟩
theorem ok__law_is_int (T : Txt P K mg cl) : FOk P w K mg base cl 1 "_law_is_int" m__law_is_int := okM T.d__law_is_int sc__law_is_int fun f cdv A outer s H E hr => (
    qss_one (qs_ret (q_and (q_isTy (t := "int") (by decide) rfl T.b_isinstance rfl T.b_int (by decide +kernel) (q_var 0)) (q_one (q_not (q_isTy (t := "bool") (by decide) rfl T.b_isinstance rfl T.b_bool (by decide +kernel) (q_var 0)))))))
theorem okH__law_is_int (T : Txt P K mg cl) : FOkH P w K mg base cl 1 "_law_is_int" m__law_is_int := okMH T.d__law_is_int sc__law_is_int fun f cdv A outer s H E p hot hr => (
    qss_one (qs_ret (q_and (q_isTy (t := "int") (by decide) rfl T.b_isinstance rfl T.b_int (by decide +kernel) (q_var 0)) (q_one (q_not (q_isTy (t := "bool") (by decide) rfl T.b_isinstance rfl T.b_bool (by decide +kernel) (q_var 0)))))))
abbrev st__law_refuses : Stmt := top 32
theorem sc__law_refuses : FnScope ["value", "e"] ["value"] (defScope st__law_refuses) := ⟨rfl, rfl, rfl, by decide +kernel, rfl, by decide +kernel, by decide +kernel⟩
theorem ok__law_refuses (T : Txt P K mg cl) : FOk P w K mg base cl 5 "_law_refuses" m__law_refuses := okM T.d__law_refuses sc__law_refuses fun f cdv A outer s H E hr => (
    qss_cons (qs_try T.tab rfl rfl rfl sc__law_refuses.nd (L2N.takes_of rfl rfl rfl rfl) (fun W pn xe tk po => (qss_one (qs_expr (q_call ((ok_write_value T).mono (by first | decide | exact Nat.le_add_right _ _ | omega)) hr tk rfl (qa_cons (q_var 0) (qa_nil))))))
    (.named (c := "BadValue") (i := 1) ⟨rfl, by decide, Or.inl T.mgc_BadValue⟩ rfl rfl (fun a C oe c0 dd pn T1 hz hf => (qss_one (qs_ret (q_and (qH_call (okH__law_is_int T) (L2H.RoomH.mono (roomM hr) (by first | decide | exact Nat.le_add_right _ _ | omega)) (hot_of hz hf) takesN rfl (qa_cons (q_xf (i := 1) (f := "at") T1 (by decide +kernel) hz hf rfl (by first | exact Or.inl rfl | exact Or.inr (Or.inl rfl)) (by decide) (by decide) rfl) (qa_nil))) (q_one (q_cmp (op_eqM hr.units) nx_eq (q_xf (i := 1) (f := "at") T1 (by decide +kernel) hz hf rfl (by first | exact Or.inl rfl | exact Or.inr (Or.inl rfl)) (by decide) (by decide) rfl) (q_int) (nomark _))))))) (.plain (c := "DeedError") ⟨rfl, by decide, Or.inl T.mgc_DeedError⟩ (fun a oe cls d pn hz hf => (qss_one (qs_ret (q_bl)))) .nil)))
    (qss_one (qs_ret (q_bl))))
abbrev st__law_turned : Stmt := top 34
theorem sc__law_turned : FnScope ["d", "text", "at", "sign", "kind"] ["d", "text"] (defScope st__law_turned) := ⟨rfl, rfl, rfl, by decide +kernel, rfl, by decide +kernel, by decide +kernel⟩
theorem ok__law_turned (T : Txt P K mg cl) : FOk P w K mg base cl 3 "_law_turned" m__law_turned := okM T.d__law_turned sc__law_turned fun f cdv A outer s H E hr => (
    qss_cons (qs_set (i := 2) sc__law_turned.nd rfl (by first | exact Or.inl rfl | exact Or.inr rfl) (q_call ((ok__law_draw T).mono (by first | decide | exact Nat.le_add_right _ _ | omega)) hr (L2N.takes_of rfl rfl rfl rfl) rfl (qa_cons (q_var 0) (qa_cons (q_op op_addM nx_add (q_callB call_lenM nx_len rfl T.b_len (by decide +kernel) (qa_cons (q_var 1) (qa_nil))) (q_int)) (qa_nil)))))
    (qss_cons (qs_set (i := 3) sc__law_turned.nd rfl (by first | exact Or.inl rfl | exact Or.inr rfl) (q_call ((ok__law_pick T).mono (by first | decide | exact Nat.le_add_right _ _ | omega)) hr (L2N.takes_of rfl rfl rfl rfl) rfl (qa_cons (q_var 0) (qa_cons (q_op op_addM nx_add (q_str [40, 41, 39, 32, 45, 48, 49, 55, 57, 59, 10, 9]) (q_call ((ok__law_pick T).mono (by first | decide | exact Nat.le_add_right _ _ | omega)) hr (L2N.takes_of rfl rfl rfl rfl) rfl (qa_cons (q_var 0) (qa_cons (q_call0 ((ok__law_signs T).mono (by first | decide | exact Nat.le_add_right _ _ | omega)) hr (L2N.takes_of rfl rfl rfl rfl) rfl) (qa_nil))))) (qa_nil)))))
    (qss_cons (qs_set (i := 4) sc__law_turned.nd rfl (by first | exact Or.inl rfl | exact Or.inr rfl) (q_call ((ok__law_draw T).mono (by first | decide | exact Nat.le_add_right _ _ | omega)) hr (L2N.takes_of rfl rfl rfl rfl) rfl (qa_cons (q_var 0) (qa_cons (q_int) (qa_nil)))))
    (qss_cons (qs_if (qt_cmp (op_eqM hr.units) nx_eq (q_var 4) (q_int) (nomark _))
    (qss_one (qs_ret (q_op op_addM nx_add (q_op op_addM nx_add (q_slice (q_var 1) qo_none (qo_some (q_var 2))) (q_var 3)) (q_slice (q_var 1) (qo_some (q_var 2)) qo_none))))
    (qss_nil))
    (qss_cons (qs_if (qt_cmp (op_eqM hr.units) nx_eq (q_var 4) (q_int) (nomark _))
    (qss_one (qs_ret (q_op op_addM nx_add (q_slice (q_var 1) qo_none (qo_some (q_var 2))) (q_slice (q_var 1) (qo_some (q_op op_addM nx_add (q_var 2) (q_int))) qo_none))))
    (qss_nil))
    (qss_cons (qs_if (qt_cmp (op_eqM hr.units) nx_eq (q_var 4) (q_int) (nomark _))
    (qss_one (qs_ret (q_op op_addM nx_add (q_op op_addM nx_add (q_slice (q_var 1) qo_none (qo_some (q_var 2))) (q_var 3)) (q_slice (q_var 1) (qo_some (q_op op_addM nx_add (q_var 2) (q_int))) qo_none))))
    (qss_nil))
    (qss_one (qs_ret (q_slice (q_var 1) qo_none (qo_some (q_var 2)))))))))))
abbrev st__law_same : Stmt := top 22
theorem sc__law_same : FnScope ["one", "other", "k"] ["one", "other"] (defScope st__law_same) := ⟨rfl, rfl, rfl, by decide +kernel, rfl, by decide +kernel, by decide +kernel⟩
theorem ok__law_same (T : Txt P K mg cl) : ∀ j : Nat, FOk P w K mg base cl (1 + j) "_law_same" (m__law_same j)
  | 0 => fok_no T.d__law_same
  | j + 1 => okM T.d__law_same sc__law_same fun f cdv A outer s H E hr => (
    qss_cons (qs_if (qt_val (q_isTy (t := "tuple") (by decide) rfl T.b_isinstance rfl T.b_tuple (by decide +kernel) (q_var 0)))
    (qss_cons (qs_if (qt_w (qw_or (qt_not (qt_val (q_isTy (t := "tuple") (by decide) rfl T.b_isinstance rfl T.b_tuple (by decide +kernel) (q_var 1)))) (qw_or1 (qt_cmp (op_neM hr.units) nx_ne (q_callB call_lenM nx_len rfl T.b_len (by decide +kernel) (qa_cons (q_var 0) (qa_nil))) (q_callB call_lenM nx_len rfl T.b_len (by decide +kernel) (qa_cons (q_var 1) (qa_nil))) (nomark _)))))
    (qss_one (qs_ret (q_bl)))
    (qss_nil))
    (qss_one (qs_ret (q_cmp (op_eqM hr.units) nx_eq (q_callB call_lenM nx_len rfl T.b_len (by decide +kernel) (qa_cons (q_lc (own := [("k", 2)]) rfl sc__law_same.nd (qi_rng1 rfl T.b_range (q_callB call_lenM nx_len rfl T.b_len (by decide +kernel) (qa_cons (q_var 0) (qa_nil)))) (blkOk_by (by kernel_rfl)) (fun _ _ _ _ _ => qgw_nm (i := 2) sc__law_same.nd rfl (by first | exact Or.inl rfl | exact Or.inr rfl) (by decide)) (fun _ _ _ _ _ => qts_one (qt_not (qt_val (q_call (ok__law_same T j) hr takesN rfl (qa_cons (q_ix (hu_of hr) (q_var 0) (q_var 2) (fun _ _ => rfl)) (qa_cons (q_ix (hu_of hr) (q_var 1) (q_var 2) (fun _ _ => rfl)) (qa_nil))))))) (fun _ _ _ _ _ => q_var 2)) (qa_nil))) (q_int) (nomark _)))))
    (qss_nil))
    (qss_cons (qs_if (qt_w (qw_or (qt_val (q_isTy (t := "bool") (by decide) rfl T.b_isinstance rfl T.b_bool (by decide +kernel) (q_var 0))) (qw_or (qt_isN (q_var 0)) (qw_or1 (qt_val (q_isTy (t := "str") (by decide) rfl T.b_isinstance rfl T.b_str (by decide +kernel) (q_var 0)))))))
    (qss_one (qs_ret (q_and (q_cmp (op_eqM hr.units) nx_eq (q_isTy (t := "bool") (by decide) rfl T.b_isinstance rfl T.b_bool (by decide +kernel) (q_var 0)) (q_isTy (t := "bool") (by decide) rfl T.b_isinstance rfl T.b_bool (by decide +kernel) (q_var 1)) (nomark _)) (q_one (q_cmp (op_eqM hr.units) nx_eq (q_var 0) (q_var 1) (nomark _))))))
    (qss_nil))
    (qss_one (qs_ret (q_and (q_call ((ok__law_is_int T).mono (by first | decide | exact Nat.le_add_right _ _ | omega)) hr (L2N.takes_of rfl rfl rfl rfl) rfl (qa_cons (q_var 0) (qa_nil))) (q_and (q_call ((ok__law_is_int T).mono (by first | decide | exact Nat.le_add_right _ _ | omega)) hr (L2N.takes_of rfl rfl rfl rfl) rfl (qa_cons (q_var 1) (qa_nil))) (q_one (q_cmp (op_eqM hr.units) nx_eq (q_var 0) (q_var 1) (nomark _)))))))))
abbrev st_is_plain : Stmt := top 7
theorem sc_is_plain : FnScope ["value", "waiting", "node"] ["value"] (defScope st_is_plain) := ⟨rfl, rfl, rfl, by decide +kernel, rfl, by decide +kernel, by decide +kernel⟩
theorem ok_is_plain (T : Txt P K mg cl) : FOk P w K mg base cl 1 "is_plain" m_is_plain := okM T.d_is_plain sc_is_plain fun f cdv A outer s H E hr => (
    qss_cons (qs_set (i := 1) sc_is_plain.nd rfl (by first | exact Or.inl rfl | exact Or.inr rfl) (q_lstC (qa_cons (q_var 0) (qa_nil))))
    (qss_cons (qs_while 1000000 (passes_of rfl) (qt_cmp op_gtM nx_gt (q_callB call_lenM nx_len rfl T.b_len (by decide +kernel) (qa_cons (q_var 1) (qa_nil))) (q_int) (nomark _))
    (qss_cons (qs_set (i := 2) sc_is_plain.nd rfl (by first | exact Or.inl rfl | exact Or.inr rfl) (q_m0 PySem.F.plainAttrs_list PySem.F.slot_list_pop PySem.F.type_list_pop mt_popM nx_pop ty1_pop (q_var 1)))
    (qss_one (qs_if (qt_val (q_isTy (t := "tuple") (by decide) rfl T.b_isinstance rfl T.b_tuple (by decide +kernel) (q_var 2)))
    (qss_one (qs_expr (q_m1 PySem.F.plainAttrs_list PySem.F.slot_list_extend PySem.F.type_list_extend mt_extendM nx_extend (q_var 1) (q_callTy call_listM nx_list rfl T.b_list (by decide +kernel) (qa_cons (q_var 2) (qa_nil))))))
    (qss_one (qs_if (qt_val (q_isTy (t := "bool") (by decide) rfl T.b_isinstance rfl T.b_bool (by decide +kernel) (q_var 2)))
    (qss_one (qs_ret (q_bl)))
    (qss_one (qs_if (qt_w (qw_and (qt_notN (q_var 2)) (qw_and (qt_not (qt_val (q_isTy (t := "int") (by decide) rfl T.b_isinstance rfl T.b_int (by decide +kernel) (q_var 2)))) (qw_and1 (qt_not (qt_val (q_isTy (t := "str") (by decide) rfl T.b_isinstance rfl T.b_str (by decide +kernel) (q_var 2))))))))
    (qss_one (qs_ret (q_bl)))
    (qss_nil)))))))))
    (qss_one (qs_ret (q_bl)))))
abbrev st_closed_tuples : Stmt := top 15
theorem sc_closed_tuples : FnScope ["text", "at", "made", "value", "sign"] ["text", "at", "made", "value"] (defScope st_closed_tuples) := ⟨rfl, rfl, rfl, by decide +kernel, rfl, by decide +kernel, by decide +kernel⟩
theorem ok_closed_tuples (T : Txt P K mg cl) : FOk P w K mg base cl 1 "closed_tuples" m_closed_tuples := okM T.d_closed_tuples sc_closed_tuples fun f cdv A outer s H E hr => (
    qss_cons (qs_while 1000000 (passes_of rfl) (qt_cmp op_gtM nx_gt (q_callB call_lenM nx_len rfl T.b_len (by decide +kernel) (qa_cons (q_var 2) (qa_nil))) (q_int) (nomark _))
    (qss_cons (qs_expr (q_m1 PySem.F.plainAttrs_list PySem.F.slot_list_append PySem.F.type_list_append mt_appendM nx_append (q_ix (hu_of hr) (q_var 2) (q_un un_negM nx_neg (q_int)) (fun _ _ => rfl)) (q_var 3)))
    (qss_cons (qs_set (i := 4) sc_closed_tuples.nd rfl (by first | exact Or.inl rfl | exact Or.inr rfl) (q_slice (q_var 0) (qo_some (q_var 1)) (qo_some (q_op op_addM nx_add (q_var 1) (q_int)))))
    (qss_cons (qs_if (qt_cmp (op_eqM hr.units) nx_eq (q_var 4) (q_str [32]) (nomark _))
    (qss_one (qs_ret (q_tup (qa_cons (q_non) (qa_cons (q_op op_addM nx_add (q_var 1) (q_int)) (qa_cons (q_bl) (qa_nil)))))))
    (qss_nil))
    (qss_cons (qs_if (qt_cmp (op_neM hr.units) nx_ne (q_var 4) (q_str [41]) (nomark _))
    (qss_one (qs_raiseX T.x_BadValue rfl hr (L2N.takes_of rfl rfl rfl rfl) (qa_cons (q_var 1) (qa_nil)) rfl))
    (qss_nil))
    (qss_cons (qs_set (i := 3) sc_closed_tuples.nd rfl (by first | exact Or.inl rfl | exact Or.inr rfl) (q_callTy call_tupleM nx_tuple rfl T.b_tuple (by decide +kernel) (qa_cons (q_m0 PySem.F.plainAttrs_list PySem.F.slot_list_pop PySem.F.type_list_pop mt_popM nx_pop ty1_pop (q_var 2)) (qa_nil))))
    (qss_one (qs_aug (i := 1) sc_closed_tuples.nd rfl (by first | exact Or.inl rfl | exact Or.inr rfl) (q_int) iop_addM nx_iadd))))))))
    (qss_cons (qs_if (qt_cmp (op_neM hr.units) nx_ne (q_var 1) (q_callB call_lenM nx_len rfl T.b_len (by decide +kernel) (qa_cons (q_var 0) (qa_nil))) (nomark _))
    (qss_one (qs_raiseX T.x_BadValue rfl hr (L2N.takes_of rfl rfl rfl rfl) (qa_cons (q_var 1) (qa_nil)) rfl))
    (qss_nil))
    (qss_one (qs_ret (q_tup (qa_cons (q_var 3) (qa_cons (q_var 1) (qa_cons (q_bl) (qa_nil)))))))))
abbrev st_figures_end : Stmt := top 13
theorem sc_figures_end : FnScope ["text", "at", "place"] ["text", "at"] (defScope st_figures_end) := ⟨rfl, rfl, rfl, by decide +kernel, rfl, by decide +kernel, by decide +kernel⟩
theorem ok_figures_end (T : Txt P K mg cl) : FOk P w K mg base cl 1 "figures_end" m_figures_end := okM T.d_figures_end sc_figures_end fun f cdv A outer s H E hr => (
    qss_cons (qs_if (qt_cmp (op_eqM hr.units) nx_eq (q_ix (hu_of hr) (q_var 0) (q_var 1) (fun _ _ => rfl)) (q_str [48]) (nomark _))
    (qss_one (qs_ret (q_op op_addM nx_add (q_var 1) (q_int))))
    (qss_nil))
    (qss_cons (qs_set (i := 2) sc_figures_end.nd rfl (by first | exact Or.inl rfl | exact Or.inr rfl) (q_var 1))
    (qss_cons (qs_while 1000000 (passes_of rfl) (qt_w (qw_and (qt_cmp op_ltM nx_lt (q_var 2) (q_callB call_lenM nx_len rfl T.b_len (by decide +kernel) (qa_cons (q_var 0) (qa_nil))) (nomark _)) (qw_and (qt_cmp (op_inM (hu_of hr)) nx_in (q_ix (hu_of hr) (q_var 0) (q_var 2) (fun _ _ => rfl)) (q_globS T.c_FIGURES rfl) (by with_unfolding_all rfl)) (qw_and1 (qt_cmp op_ltM nx_lt (q_op op_subM nx_sub (q_var 2) (q_var 1)) (q_glob T.c_MOST_FIGURES rfl) (nomark _))))))
    (qss_one (qs_aug (i := 2) sc_figures_end.nd rfl (by first | exact Or.inl rfl | exact Or.inr rfl) (q_int) iop_addM nx_iadd)))
    (qss_one (qs_ret (q_var 2))))))
abbrev st_read_text : Stmt := top 12
theorem sc_read_text : FnScope ["text", "at", "place"] ["text", "at"] (defScope st_read_text) := ⟨rfl, rfl, rfl, by decide +kernel, rfl, by decide +kernel, by decide +kernel⟩
theorem ok_read_text (T : Txt P K mg cl) : FOk P w K mg base cl 2 "read_text" m_read_text := okM T.d_read_text sc_read_text fun f cdv A outer s H E hr => (
    qss_asgK (i := 2) sc_read_text.nd rfl (by first | exact Or.inl rfl | exact Or.inr rfl) (k_opR op_addM nx_add (q_var 1) (k_int))
    (qssT_cons (qs_while 1000000 (passes_of rfl) (qt_w (qw_and (qt_cmp op_ltM nx_lt (q_var 2) (q_callB call_lenM nx_len rfl T.b_len (by decide +kernel) (qa_cons (q_var 0) (qa_nil))) (nomark _)) (qw_and1 (qt_cmp (op_neM hr.units) nx_ne (q_ix (hu_of hr) (q_var 0) (q_var 2) (fun _ _ => rfl)) (q_str [39]) (nomark _)))))
    (qss_cons (qs_if (qt_w (qw_and (qt_not (qt_val (q_call ((ok_is_written_sign T).mono (by first | decide | exact Nat.le_add_right _ _ | omega)) hr (L2N.takes_of rfl rfl rfl rfl) rfl (qa_cons (q_ix (hu_of hr) (q_var 0) (q_var 2) (fun _ _ => rfl)) (qa_nil))))) (qw_and1 (qt_cmp (op_neM hr.units) nx_ne (q_ix (hu_of hr) (q_var 0) (q_var 2) (fun _ _ => rfl)) (q_str [59]) (nomark _)))))
    (qss_one (qs_raiseX T.x_BadValue rfl hr (L2N.takes_of rfl rfl rfl rfl) (qa_cons (q_var 2) (qa_nil)) rfl))
    (qss_nil))
    (qss_one (qs_aug (i := 2) sc_read_text.nd rfl (by first | exact Or.inl rfl | exact Or.inr rfl) (q_int) iop_addM nx_iadd))))
    (qssT_cons (qs_if (qt_cmp (op_eqM hr.units) nx_eq (q_var 2) (q_callB call_lenM nx_len rfl T.b_len (by decide +kernel) (qa_cons (q_var 0) (qa_nil))) (nomark _))
    (qss_one (qs_raiseX T.x_BadValue rfl hr (L2N.takes_of rfl rfl rfl rfl) (qa_cons (q_var 2) (qa_nil)) rfl))
    (qss_nil))
    (qssT_ret (qt_tup (qat_cons (qt_repl 59 [10] (qt_of (q_slice (q_var 0) (qo_some (q_op op_addM nx_add (q_var 1) (q_int))) (qo_some (q_var 2))))) (qat_cons (qt_of (q_op op_addM nx_add (q_var 2) (q_int))) (qat_nil))))))))
abbrev st_read_leaf : Stmt := top 14
theorem sc_read_leaf : FnScope ["text", "at", "sign", "end", "follows"] ["text", "at"] (defScope st_read_leaf) := ⟨rfl, rfl, rfl, by decide +kernel, rfl, by decide +kernel, by decide +kernel⟩
theorem ok_read_leaf (T : Txt P K mg cl) : FOk P w K mg base cl 3 "read_leaf" m_read_leaf := okM T.d_read_leaf sc_read_leaf fun f cdv A outer s H E hr => (
    qss_cons (qs_set (i := 2) sc_read_leaf.nd rfl (by first | exact Or.inl rfl | exact Or.inr rfl) (q_slice (q_var 0) (qo_some (q_var 1)) (qo_some (q_op op_addM nx_add (q_var 1) (q_int)))))
    (qss_cons (qs_if (qt_cmp (op_eqM hr.units) nx_eq (q_var 2) (q_str [39]) (nomark _))
    (qss_one (qs_ret (q_call ((ok_read_text T).mono (by first | decide | exact Nat.le_add_right _ _ | omega)) hr (L2N.takes_of rfl rfl rfl rfl) rfl (qa_cons (q_var 0) (qa_cons (q_var 1) (qa_nil))))))
    (qss_nil))
    (qss_cons (qs_if (qt_cmp (op_eqM hr.units) nx_eq (q_var 2) (q_str [45]) (nomark _))
    (qss_cons (qs_set (i := 4) sc_read_leaf.nd rfl (by first | exact Or.inl rfl | exact Or.inr rfl) (q_slice (q_var 0) (qo_some (q_op op_addM nx_add (q_var 1) (q_int))) (qo_some (q_op op_addM nx_add (q_var 1) (q_int)))))
    (qss_cons (qs_if (qt_w (qw_or (qt_cmp (op_eqM hr.units) nx_eq (q_var 4) (q_str []) (nomark _)) (qw_or (qt_cmp (op_eqM hr.units) nx_eq (q_var 4) (q_str [48]) (nomark _)) (qw_or1 (qt_cmp (op_notInM (hu_of hr)) nx_notIn (q_var 4) (q_globS T.c_FIGURES rfl) (by with_unfolding_all rfl))))))
    (qss_one (qs_ret (q_tup (qa_cons (q_non) (qa_cons (q_op op_addM nx_add (q_var 1) (q_int)) (qa_nil))))))
    (qss_nil))
    (qss_cons (qs_set (i := 3) sc_read_leaf.nd rfl (by first | exact Or.inl rfl | exact Or.inr rfl) (q_call ((ok_figures_end T).mono (by first | decide | exact Nat.le_add_right _ _ | omega)) hr (L2N.takes_of rfl rfl rfl rfl) rfl (qa_cons (q_var 0) (qa_cons (q_op op_addM nx_add (q_var 1) (q_int)) (qa_nil)))))
    (qss_one (qs_ret (q_tup (qa_cons (q_op op_subM nx_sub (q_int) (q_callTy call_intM nx_int1 rfl T.b_int (by decide +kernel) (qa_cons (q_slice (q_var 0) (qo_some (q_op op_addM nx_add (q_var 1) (q_int))) (qo_some (q_var 3))) (qa_nil)))) (qa_cons (q_var 3) (qa_nil)))))))))
    (qss_nil))
    (qss_cons (qs_if (qt_w (qw_or (qt_cmp (op_eqM hr.units) nx_eq (q_var 2) (q_str []) (nomark _)) (qw_or1 (qt_cmp (op_notInM (hu_of hr)) nx_notIn (q_var 2) (q_globS T.c_FIGURES rfl) (by with_unfolding_all rfl)))))
    (qss_one (qs_raiseX T.x_BadValue rfl hr (L2N.takes_of rfl rfl rfl rfl) (qa_cons (q_var 1) (qa_nil)) rfl))
    (qss_nil))
    (qss_cons (qs_set (i := 3) sc_read_leaf.nd rfl (by first | exact Or.inl rfl | exact Or.inr rfl) (q_call ((ok_figures_end T).mono (by first | decide | exact Nat.le_add_right _ _ | omega)) hr (L2N.takes_of rfl rfl rfl rfl) rfl (qa_cons (q_var 0) (qa_cons (q_var 1) (qa_nil)))))
    (qss_one (qs_ret (q_tup (qa_cons (q_callTy call_intM nx_int1 rfl T.b_int (by decide +kernel) (qa_cons (q_slice (q_var 0) (qo_some (q_var 1)) (qo_some (q_var 3))) (qa_nil))) (qa_cons (q_var 3) (qa_nil)))))))))))
abbrev st_read_value : Stmt := top 16
theorem sc_read_value : FnScope ["text", "made", "at", "value", "is_read"] ["text"] (defScope st_read_value) := ⟨rfl, rfl, rfl, by decide +kernel, rfl, by decide +kernel, by decide +kernel⟩
theorem ok_read_value (T : Txt P K mg cl) : FOk P w K mg base cl 4 "read_value" m_read_value := okM T.d_read_value sc_read_value fun f cdv A outer s H E hr => (
    qss_cons (qs_set (i := 1) sc_read_value.nd rfl (by first | exact Or.inl rfl | exact Or.inr rfl) (q_lstC (qa_nil)))
    (qss_cons (qs_set (i := 2) sc_read_value.nd rfl (by first | exact Or.inl rfl | exact Or.inr rfl) (q_int))
    (qss_one (qs_while 1000000 (passes_of rfl) (qt_val (q_bl))
    (qss_one (qs_if (qt_w (qw_and (qt_cmp (op_eqM hr.units) nx_eq (q_slice (q_var 0) (qo_some (q_var 2)) (qo_some (q_op op_addM nx_add (q_var 2) (q_int)))) (q_str [40]) (nomark _)) (qw_and1 (qt_cmp (op_neM hr.units) nx_ne (q_slice (q_var 0) (qo_some (q_op op_addM nx_add (q_var 2) (q_int))) (qo_some (q_op op_addM nx_add (q_var 2) (q_int)))) (q_str [41]) (nomark _)))))
    (qss_cons (qs_expr (q_m1 PySem.F.plainAttrs_list PySem.F.slot_list_append PySem.F.type_list_append mt_appendM nx_append (q_var 1) (q_lstC (qa_nil))))
    (qss_one (qs_aug (i := 2) sc_read_value.nd rfl (by first | exact Or.inl rfl | exact Or.inr rfl) (q_int) iop_addM nx_iadd)))
    (qss_cons (qs_if (qt_cmp (op_eqM hr.units) nx_eq (q_slice (q_var 0) (qo_some (q_var 2)) (qo_some (q_op op_addM nx_add (q_var 2) (q_int)))) (q_str [40, 41]) (nomark _))
    (qss_cons (qs_set (i := 3) sc_read_value.nd rfl (by first | exact Or.inl rfl | exact Or.inr rfl) (q_tup (qa_nil)))
    (qss_one (qs_aug (i := 2) sc_read_value.nd rfl (by first | exact Or.inl rfl | exact Or.inr rfl) (q_int) iop_addM nx_iadd)))
    (qss_one (qs_asg (q_call ((ok_read_leaf T).mono (by first | decide | exact Nat.le_add_right _ _ | omega)) hr (L2N.takes_of rfl rfl rfl rfl) rfl (qa_cons (q_var 0) (qa_cons (q_var 2) (qa_nil)))) (qg_tp rfl (qgs_cons (qg_nm (i := 3) sc_read_value.nd rfl (by first | exact Or.inl rfl | exact Or.inr rfl)) (qgs_cons (qg_nm (i := 2) sc_read_value.nd rfl (by first | exact Or.inl rfl | exact Or.inr rfl)) (qgs_nil)))))))
    (qss_cons (qs_asg (q_call ((ok_closed_tuples T).mono (by first | decide | exact Nat.le_add_right _ _ | omega)) hr (L2N.takes_of rfl rfl rfl rfl) rfl (qa_cons (q_var 0) (qa_cons (q_var 2) (qa_cons (q_var 1) (qa_cons (q_var 3) (qa_nil)))))) (qg_tp rfl (qgs_cons (qg_nm (i := 3) sc_read_value.nd rfl (by first | exact Or.inl rfl | exact Or.inr rfl)) (qgs_cons (qg_nm (i := 2) sc_read_value.nd rfl (by first | exact Or.inl rfl | exact Or.inr rfl)) (qgs_cons (qg_nm (i := 4) sc_read_value.nd rfl (by first | exact Or.inl rfl | exact Or.inr rfl)) (qgs_nil))))))
    (qss_one (qs_if (qt_val (q_var 4))
    (qss_one (qs_ret (q_var 3)))
    (qss_nil)))))))))))
abbrev st__law_odd : Stmt := top 35
theorem sc__law_odd : FnScope ["d", "value", "bad", "row", "at"] ["d", "value"] (defScope st__law_odd) := ⟨rfl, rfl, rfl, by decide +kernel, rfl, by decide +kernel, by decide +kernel⟩
theorem ok__law_odd (T : Txt P K mg cl) : FOk P w K mg base cl 3 "_law_odd" m__law_odd := okM T.d__law_odd sc__law_odd fun f cdv A outer s H E hr => (
    qss_cons (qs_set (i := 2) sc__law_odd.nd rfl (by first | exact Or.inl rfl | exact Or.inr rfl) (q_call ((ok__law_pick T).mono (by first | decide | exact Nat.le_add_right _ _ | omega)) hr (L2N.takes_of rfl rfl rfl rfl) rfl (qa_cons (q_var 0) (qa_cons (q_lst (qa_cons (q_bl) (qa_cons (q_bl) (qa_cons (q_lst (qa_nil)) (qa_cons (q_lst (qa_cons (q_var 1) (qa_nil))) (qa_cons (q_dic) (qa_cons (q_lst (qa_cons (q_int) (qa_cons (q_tup (qa_nil)) (qa_nil)))) (qa_nil)))))))) (qa_nil)))))
    (qss_cons (qs_set (i := 3) sc__law_odd.nd rfl (by first | exact Or.inl rfl | exact Or.inr rfl) (q_tup (qa_cons (q_var 1) (qa_cons (q_int) (qa_cons (q_str []) (qa_cons (q_non) (qa_nil)))))))
    (qss_cons (qs_set (i := 4) sc__law_odd.nd rfl (by first | exact Or.inl rfl | exact Or.inr rfl) (q_call ((ok__law_draw T).mono (by first | decide | exact Nat.le_add_right _ _ | omega)) hr (L2N.takes_of rfl rfl rfl rfl) rfl (qa_cons (q_var 0) (qa_cons (q_int) (qa_nil)))))
    (qss_one (qs_ret (q_call ((ok__law_pick T).mono (by first | decide | exact Nat.le_add_right _ _ | omega)) hr (L2N.takes_of rfl rfl rfl rfl) rfl (qa_cons (q_var 0) (qa_cons (q_lst (qa_cons (q_var 2) (qa_cons (q_op op_addM nx_add (q_op op_addM nx_add (q_slice (q_var 3) qo_none (qo_some (q_var 4))) (q_tup (qa_cons (q_var 2) (qa_nil)))) (q_slice (q_var 3) (qo_some (q_var 4)) qo_none)) (qa_cons (q_tup (qa_cons (q_tup (qa_nil)) (qa_cons (q_tup (qa_cons (q_tup (qa_cons (q_var 1) (qa_cons (q_tup (qa_cons (q_var 2) (qa_nil))) (qa_nil)))) (qa_nil))) (qa_nil)))) (qa_cons (q_tup (qa_cons (q_var 3) (qa_cons (q_slice (q_var 3) qo_none (qo_some (q_var 4))) (qa_cons (q_var 2) (qa_nil))))) (qa_nil)))))) (qa_nil)))))))))
abbrev st__law_leaf_of : Stmt := top 29
theorem sc__law_leaf_of : FnScope ["word"] ["word"] (defScope st__law_leaf_of) := ⟨rfl, rfl, rfl, by decide +kernel, rfl, by decide +kernel, by decide +kernel⟩
theorem ok__law_leaf_of (T : Txt P K mg cl) : FOk P w K mg base cl 1 "_law_leaf_of" m__law_leaf_of := okM T.d__law_leaf_of sc__law_leaf_of fun f cdv A outer s H E hr => (
    qss_cons (qs_if (qt_cmp (op_eqM hr.units) nx_eq (q_var 0) (q_str [45]) (nomark _))
    (qss_one (qs_ret (q_non)))
    (qss_nil))
    (qss_one (qs_ret (q_callTy call_intM nx_int1 rfl T.b_int (by decide +kernel) (qa_cons (q_var 0) (qa_nil))))))
abbrev st__law_goes_on : Stmt := top 28
theorem sc__law_goes_on : FnScope ["word", "sign"] ["word", "sign"] (defScope st__law_goes_on) := ⟨rfl, rfl, rfl, by decide +kernel, rfl, by decide +kernel, by decide +kernel⟩
theorem ok__law_goes_on (T : Txt P K mg cl) : FOk P w K mg base cl 1 "_law_goes_on" m__law_goes_on := okM T.d__law_goes_on sc__law_goes_on fun f cdv A outer s H E hr => (
    qss_cons (qs_if (qt_w (qw_or (qt_cmp (op_notInM (hu_of hr)) nx_notIn (q_var 1) (q_str [48, 49, 50, 51, 52, 53, 54, 55, 56, 57]) (by with_unfolding_all rfl)) (qw_or1 (qt_cmp (op_eqM hr.units) nx_eq (q_var 0) (q_str [48]) (nomark _)))))
    (qss_one (qs_ret (q_bl)))
    (qss_nil))
    (qss_cons (qs_if (qt_cmp (op_eqM hr.units) nx_eq (q_var 0) (q_str [45]) (nomark _))
    (qss_one (qs_ret (q_cmp (op_neM hr.units) nx_ne (q_var 1) (q_str [48]) (nomark _))))
    (qss_nil))
    (qss_one (qs_ret (q_cmp op_ltM nx_lt (q_op op_subM nx_sub (q_callB call_lenM nx_len rfl T.b_len (by decide +kernel) (qa_cons (q_var 0) (qa_nil))) (q_callTy call_intM nx_int1 rfl T.b_int (by decide +kernel) (qa_cons (q_cmp (op_eqM hr.units) nx_eq (q_ix (hu_of hr) (q_var 0) (q_int) (fun _ _ => rfl)) (q_str [45]) (nomark _)) (qa_nil)))) (q_int) (nomark _))))))
abbrev st__law_read : Stmt := top 30
theorem sc__law_read : FnScope ["text", "signs", "rows", "word", "state", "at", "sign", "made"] ["text"] (defScope st__law_read) := ⟨rfl, rfl, rfl, by decide +kernel, rfl, by decide +kernel, by decide +kernel⟩
theorem ok__law_read (T : Txt P K mg cl) : FOk P w K mg base cl 2 "_law_read" m__law_read := okM T.d__law_read sc__law_read fun f cdv A outer s H E hr => (
    qss_cons (qs_set (i := 1) sc__law_read.nd rfl (by first | exact Or.inl rfl | exact Or.inr rfl) (q_op op_addM nx_add (q_call0 ((ok__law_signs T).mono (by first | decide | exact Nat.le_add_right _ _ | omega)) hr (L2N.takes_of rfl rfl rfl rfl) rfl) (q_str [59])))
    (qss_cons (qs_set (i := 2) sc__law_read.nd rfl (by first | exact Or.inl rfl | exact Or.inr rfl) (q_lstC (qa_cons (q_lstC (qa_nil)) (qa_nil))))
    (qss_cons (qs_set (i := 3) sc__law_read.nd rfl (by first | exact Or.inl rfl | exact Or.inr rfl) (q_str []))
    (qss_cons (qs_set (i := 4) sc__law_read.nd rfl (by first | exact Or.inl rfl | exact Or.inr rfl) (q_str [118, 97, 108, 117, 101]))
    (qss_cons (qs_for (passes_of rfl) rfl (qi_rng1 rfl T.b_range (q_callB call_lenM nx_len rfl T.b_len (by decide +kernel) (qa_cons (q_var 0) (qa_nil)))) (qg_nm (i := 5) sc__law_read.nd rfl (by first | exact Or.inl rfl | exact Or.inr rfl))
    (qss_cons (qs_set (i := 6) sc__law_read.nd rfl (by first | exact Or.inl rfl | exact Or.inr rfl) (q_ix (hu_of hr) (q_var 0) (q_var 5) (fun _ _ => rfl)))
    (qss_one (qs_if (qt_w (qw_and (qt_cmp (op_eqM hr.units) nx_eq (q_var 4) (q_str [116, 101, 120, 116]) (nomark _)) (qw_and1 (qt_cmp (op_eqM hr.units) nx_eq (q_var 6) (q_str [39]) (nomark _)))))
    (qss_cons (qs_expr (q_m1K PySem.F.plainAttrs_list PySem.F.slot_list_append PySem.F.type_list_append mt_appendM nx_append (k_ix (hu_of hr) (q_var 2) (k_un un_negM nx_neg (k_int)) (fun _ _ => rfl)) (qt_repl 59 [10] (qt_of (q_var 3)))))
    (qss_one (qs_set (i := 4) sc__law_read.nd rfl (by first | exact Or.inl rfl | exact Or.inr rfl) (q_str [98, 101, 104, 105, 110, 100]))))
    (qss_one (qs_if (qt_w (qw_or (qt_w (qw_and (qt_cmp (op_eqM hr.units) nx_eq (q_var 4) (q_str [116, 101, 120, 116]) (nomark _)) (qw_and1 (qt_cmp (op_inM (hu_of hr)) nx_in (q_var 6) (q_var 1) (by with_unfolding_all rfl))))) (qw_or1 (qt_w (qw_and (qt_cmp (op_eqM hr.units) nx_eq (q_var 4) (q_str [108, 101, 97, 102]) (nomark _)) (qw_and1 (qt_val (q_call ((ok__law_goes_on T).mono (by first | decide | exact Nat.le_add_right _ _ | omega)) hr (L2N.takes_of rfl rfl rfl rfl) rfl (qa_cons (q_var 3) (qa_cons (q_var 6) (qa_nil)))))))))))
    (qss_one (qs_set (i := 3) sc__law_read.nd rfl (by first | exact Or.inl rfl | exact Or.inr rfl) (q_op op_addM nx_add (q_var 3) (q_var 6))))
    (qss_one (qs_if (qt_w (qw_and (qt_w (qw_or (qt_cmp (op_eqM hr.units) nx_eq (q_var 4) (q_str [118, 97, 108, 117, 101]) (nomark _)) (qw_or1 (qt_cmp (op_eqM hr.units) nx_eq (q_var 4) (q_str [111, 112, 101, 110]) (nomark _))))) (qw_and1 (qt_cmp (op_inM (hu_of hr)) nx_in (q_var 6) (q_str [40, 39, 45, 48, 49, 50, 51, 52, 53, 54, 55, 56, 57]) (by with_unfolding_all rfl)))))
    (qss_cons (qs_set (i := 3) sc__law_read.nd rfl (by first | exact Or.inl rfl | exact Or.inr rfl) (q_str []))
    (qss_one (qs_if (qt_cmp (op_eqM hr.units) nx_eq (q_var 6) (q_str [40]) (nomark _))
    (qss_cons (qs_expr (q_m1 PySem.F.plainAttrs_list PySem.F.slot_list_append PySem.F.type_list_append mt_appendM nx_append (q_var 2) (q_lstC (qa_nil))))
    (qss_one (qs_set (i := 4) sc__law_read.nd rfl (by first | exact Or.inl rfl | exact Or.inr rfl) (q_str [111, 112, 101, 110]))))
    (qss_one (qs_if (qt_cmp (op_eqM hr.units) nx_eq (q_var 6) (q_str [39]) (nomark _))
    (qss_one (qs_set (i := 4) sc__law_read.nd rfl (by first | exact Or.inl rfl | exact Or.inr rfl) (q_str [116, 101, 120, 116])))
    (qss_cons (qs_set (i := 3) sc__law_read.nd rfl (by first | exact Or.inl rfl | exact Or.inr rfl) (q_var 6))
    (qss_one (qs_set (i := 4) sc__law_read.nd rfl (by first | exact Or.inl rfl | exact Or.inr rfl) (q_str [108, 101, 97, 102])))))))))
    (qss_one (qs_if (qt_w (qw_or (qt_w (qw_and (qt_cmp (op_eqM hr.units) nx_eq (q_var 4) (q_str [111, 112, 101, 110]) (nomark _)) (qw_and1 (qt_cmp (op_eqM hr.units) nx_eq (q_var 6) (q_str [41]) (nomark _))))) (qw_or1 (qt_w (qw_and (qt_cmp (op_inM (hu_of hr)) nx_in (q_var 4) (q_lst (qa_cons (q_str [108, 101, 97, 102]) (qa_cons (q_str [98, 101, 104, 105, 110, 100]) (qa_nil)))) (by with_unfolding_all rfl)) (qw_and (qt_cmp (op_inM (hu_of hr)) nx_in (q_var 6) (q_str [32, 41]) (by with_unfolding_all rfl)) (qw_and1 (qt_cmp op_gtM nx_gt (q_callB call_lenM nx_len rfl T.b_len (by decide +kernel) (qa_cons (q_var 2) (qa_nil))) (q_int) (nomark _)))))))))
    (qss_cons (qs_if (qt_cmp (op_eqM hr.units) nx_eq (q_var 4) (q_str [108, 101, 97, 102]) (nomark _))
    (qss_one (qs_expr (q_m1 PySem.F.plainAttrs_list PySem.F.slot_list_append PySem.F.type_list_append mt_appendM nx_append (q_ix (hu_of hr) (q_var 2) (q_un un_negM nx_neg (q_int)) (fun _ _ => rfl)) (q_call ((ok__law_leaf_of T).mono (by first | decide | exact Nat.le_add_right _ _ | omega)) hr (L2N.takes_of rfl rfl rfl rfl) rfl (qa_cons (q_var 3) (qa_nil))))))
    (qss_nil))
    (qss_cons (qs_set (i := 4) sc__law_read.nd rfl (by first | exact Or.inl rfl | exact Or.inr rfl) (q_str [118, 97, 108, 117, 101]))
    (qss_one (qs_if (qt_cmp (op_eqM hr.units) nx_eq (q_var 6) (q_str [41]) (nomark _))
    (qss_cons (qs_set (i := 7) sc__law_read.nd rfl (by first | exact Or.inl rfl | exact Or.inr rfl) (q_callTy call_tupleM nx_tuple rfl T.b_tuple (by decide +kernel) (qa_cons (q_m0 PySem.F.plainAttrs_list PySem.F.slot_list_pop PySem.F.type_list_pop mt_popM nx_pop ty1_pop (q_var 2)) (qa_nil))))
    (qss_cons (qs_expr (q_m1 PySem.F.plainAttrs_list PySem.F.slot_list_append PySem.F.type_list_append mt_appendM nx_append (q_ix (hu_of hr) (q_var 2) (q_un un_negM nx_neg (q_int)) (fun _ _ => rfl)) (q_var 7)))
    (qss_one (qs_set (i := 4) sc__law_read.nd rfl (by first | exact Or.inl rfl | exact Or.inr rfl) (q_str [98, 101, 104, 105, 110, 100])))))
    (qss_nil)))))
    (qss_one (qs_ret (q_tup (qa_cons (q_str [98, 97, 100]) (qa_cons (q_var 5) (qa_nil))))))))))))))))
    (qss_cons (qs_if (qt_w (qw_or (qt_cmp op_gtM nx_gt (q_callB call_lenM nx_len rfl T.b_len (by decide +kernel) (qa_cons (q_var 2) (qa_nil))) (q_int) (nomark _)) (qw_or (qt_cmp (op_eqM hr.units) nx_eq (q_var 4) (q_str [118, 97, 108, 117, 101]) (nomark _)) (qw_or1 (qt_cmp (op_eqM hr.units) nx_eq (q_var 4) (q_str [116, 101, 120, 116]) (nomark _))))))
    (qss_one (qs_ret (q_tup (qa_cons (q_str [98, 97, 100]) (qa_cons (q_callB call_lenM nx_len rfl T.b_len (by decide +kernel) (qa_cons (q_var 0) (qa_nil))) (qa_nil))))))
    (qss_nil))
    (qss_cons (qs_if (qt_cmp (op_eqM hr.units) nx_eq (q_var 4) (q_str [108, 101, 97, 102]) (nomark _))
    (qss_one (qs_expr (q_m1 PySem.F.plainAttrs_list PySem.F.slot_list_append PySem.F.type_list_append mt_appendM nx_append (q_ix (hu_of hr) (q_var 2) (q_un un_negM nx_neg (q_int)) (fun _ _ => rfl)) (q_call ((ok__law_leaf_of T).mono (by first | decide | exact Nat.le_add_right _ _ | omega)) hr (L2N.takes_of rfl rfl rfl rfl) rfl (qa_cons (q_var 3) (qa_nil))))))
    (qss_nil))
    (qss_one (qs_ret (q_tup (qa_cons (q_str [118, 97, 108, 117, 101]) (qa_cons (q_ix (hu_of hr) (q_ix (hu_of hr) (q_var 2) (q_int) (fun _ _ => rfl)) (q_int) (fun _ _ => rfl)) (qa_nil)))))))))))))
abbrev st__law_asked : Stmt := top 31
theorem sc__law_asked : FnScope ["text", "due", "found", "e"] ["text"] (defScope st__law_asked) := ⟨rfl, rfl, rfl, by decide +kernel, rfl, by decide +kernel, by decide +kernel⟩
theorem ok__law_asked (T : Txt P K mg cl) : FOk P w K mg base cl 203 "_law_asked" m__law_asked := okM T.d__law_asked sc__law_asked fun f cdv A outer s H E hr => (
    qss_cons (qs_set (i := 1) sc__law_asked.nd rfl (by first | exact Or.inl rfl | exact Or.inr rfl) (q_call ((ok__law_read T).mono (by first | decide | exact Nat.le_add_right _ _ | omega)) hr (L2N.takes_of rfl rfl rfl rfl) rfl (qa_cons (q_var 0) (qa_nil))))
    (qss_cons (qs_try T.tab rfl rfl rfl sc__law_asked.nd (L2N.takes_of rfl rfl rfl rfl) (fun W pn xe tk po => (qss_one (qs_set (i := 2) sc__law_asked.nd rfl (by first | exact Or.inl rfl | exact Or.inr rfl) (q_call ((ok_read_value T).mono (by first | decide | exact Nat.le_add_right _ _ | omega)) hr tk rfl (qa_cons (q_var 0) (qa_nil))))))
    (.named (c := "BadValue") (i := 3) ⟨rfl, by decide, Or.inl T.mgc_BadValue⟩ rfl rfl (fun a C oe c0 dd pn T1 hz hf => (qss_one (qs_ret (q_and (q_cmp (op_eqM hr.units) nx_eq (q_ix (huM hr) (q_var 1) (q_int) (fun _ _ => rfl)) (q_str [98, 97, 100]) (nomark _)) (q_and (qH_call (okH__law_is_int T) (L2H.RoomH.mono (roomM hr) (by first | decide | exact Nat.le_add_right _ _ | omega)) (hot_of hz hf) takesN rfl (qa_cons (q_xf (i := 3) (f := "at") T1 (by decide +kernel) hz hf rfl (by first | exact Or.inl rfl | exact Or.inr (Or.inl rfl)) (by decide) (by decide) rfl) (qa_nil))) (q_one (q_cmp (op_eqM hr.units) nx_eq (q_xf (i := 3) (f := "at") T1 (by decide +kernel) hz hf rfl (by first | exact Or.inl rfl | exact Or.inr (Or.inl rfl)) (by decide) (by decide) rfl) (q_ix (huM hr) (q_var 1) (q_int) (fun _ _ => rfl)) (nomark _)))))))) (.plain (c := "DeedError") ⟨rfl, by decide, Or.inl T.mgc_DeedError⟩ (fun a oe cls d pn hz hf => (qss_one (qs_ret (q_bl)))) .nil)))
    (qss_one (qs_ret (q_and (q_cmp (op_eqM hr.units) nx_eq (q_ix (hu_of hr) (q_var 1) (q_int) (fun _ _ => rfl)) (q_str [118, 97, 108, 117, 101]) (nomark _)) (q_and (q_call ((ok__law_same T 200).mono (by first | decide | exact Nat.le_add_right _ _ | omega)) hr (L2N.takes_of rfl rfl rfl rfl) rfl (qa_cons (q_var 2) (qa_cons (q_ix (hu_of hr) (q_var 1) (q_int) (fun _ _ => rfl)) (qa_nil)))) (q_one (q_cmp (op_eqM hr.units) nx_eq (q_call ((ok_write_value T).mono (by first | decide | exact Nat.le_add_right _ _ | omega)) hr (L2N.takes_of rfl rfl rfl rfl) rfl (qa_cons (q_var 2) (qa_nil))) (q_var 0) (nomark _)))))))))
abbrev st_law : Stmt := top 36
theorem sc_law : FnScope ["script", "d", "pair", "value", "text", "again", "row", "good", "bad", "texts", "k", "found", "word", "j"] ["script"] (defScope st_law) := ⟨rfl, rfl, rfl, by decide +kernel, rfl, by decide +kernel, by decide +kernel⟩
theorem ok_law (T : Txt P K mg cl) {f0 : Addr} {fd : FuncData} (F : Fun K "law" "law" st_law f0 fd) : FnOk P w K mg base (L2N.CX P w) 204 f0 fd ["script"] (spM K cl m_law) := okM0 F sc_law fun f cdv A outer s H E hr => (
    qss_cons (qs_set (i := 1) sc_law.nd rfl (by first | exact Or.inl rfl | exact Or.inr rfl) (q_call ((ok__law_begin T).mono (by first | decide | exact Nat.le_add_right _ _ | omega)) hr (L2N.takes_of rfl rfl rfl rfl) rfl (qa_cons (q_var 0) (qa_nil))))
    (qss_cons (qs_set (i := 2) sc_law.nd rfl (by first | exact Or.inl rfl | exact Or.inr rfl) (q_call ((ok__law_leaf_made T).mono (by first | decide | exact Nat.le_add_right _ _ | omega)) hr (L2N.takes_of rfl rfl rfl rfl) rfl (qa_cons (q_var 1) (qa_nil))))
    (qss_cons (qs_if (qt_cmp op_gtM nx_gt (q_call ((ok__law_draw T).mono (by first | decide | exact Nat.le_add_right _ _ | omega)) hr (L2N.takes_of rfl rfl rfl rfl) rfl (qa_cons (q_var 1) (qa_cons (q_int) (qa_nil)))) (q_int) (nomark _))
    (qss_one (qs_set (i := 2) sc_law.nd rfl (by first | exact Or.inl rfl | exact Or.inr rfl) (q_call ((ok__law_made T).mono (by first | decide | exact Nat.le_add_right _ _ | omega)) hr (L2N.takes_of rfl rfl rfl rfl) rfl (qa_cons (q_var 1) (qa_cons (q_call ((ok__law_pick T).mono (by first | decide | exact Nat.le_add_right _ _ | omega)) hr (L2N.takes_of rfl rfl rfl rfl) rfl (qa_cons (q_var 1) (qa_cons (q_lst (qa_cons (q_int) (qa_cons (q_int) (qa_cons (q_int) (qa_cons (q_int) (qa_cons (q_int) (qa_cons (q_int) (qa_cons (q_int) (qa_nil))))))))) (qa_nil)))) (qa_nil))))))
    (qss_nil))
    (qss_cons (qs_set (i := 2) sc_law.nd rfl (by first | exact Or.inl rfl | exact Or.inr rfl) (q_call ((ok__law_wrapped T).mono (by first | decide | exact Nat.le_add_right _ _ | omega)) hr (L2N.takes_of rfl rfl rfl rfl) rfl (qa_cons (q_var 1) (qa_cons (q_var 2) (qa_cons (q_call ((ok__law_pick T).mono (by first | decide | exact Nat.le_add_right _ _ | omega)) hr (L2N.takes_of rfl rfl rfl rfl) rfl (qa_cons (q_var 1) (qa_cons (q_lst (qa_cons (q_int) (qa_cons (q_int) (qa_cons (q_int) (qa_cons (q_int) (qa_cons (q_int) (qa_nil))))))) (qa_nil)))) (qa_nil))))))
    (qss_cons (qs_asg (q_var 2) (qg_tp rfl (qgs_cons (qg_nm (i := 3) sc_law.nd rfl (by first | exact Or.inl rfl | exact Or.inr rfl)) (qgs_cons (qg_nm (i := 4) sc_law.nd rfl (by first | exact Or.inl rfl | exact Or.inr rfl)) (qgs_nil)))))
    (qss_cons (qs_set (i := 5) sc_law.nd rfl (by first | exact Or.inl rfl | exact Or.inr rfl) (q_call ((ok__law_wrapped T).mono (by first | decide | exact Nat.le_add_right _ _ | omega)) hr (L2N.takes_of rfl rfl rfl rfl) rfl (qa_cons (q_var 1) (qa_cons (q_call ((ok__law_made T).mono (by first | decide | exact Nat.le_add_right _ _ | omega)) hr (L2N.takes_of rfl rfl rfl rfl) rfl (qa_cons (q_var 1) (qa_cons (q_int) (qa_nil)))) (qa_cons (q_int) (qa_nil))))))
    (qss_cons (qs_for (passes_of rfl) rfl (qi_seq (q_lst (qa_cons (q_var 2) (qa_cons (q_var 5) (qa_cons (q_var 2) (qa_nil)))))) (qg_nm (i := 6) sc_law.nd rfl (by first | exact Or.inl rfl | exact Or.inr rfl))
    (qss_cons (qs_set (i := 11) sc_law.nd rfl (by first | exact Or.inl rfl | exact Or.inr rfl) (q_call ((ok_write_value T).mono (by first | decide | exact Nat.le_add_right _ _ | omega)) hr (L2N.takes_of rfl rfl rfl rfl) rfl (qa_cons (q_ix (hu_of hr) (q_var 6) (q_int) (fun _ _ => rfl)) (qa_nil))))
    (qss_cons (qs_if (qt_w (qw_or (qt_not (qt_val (q_isTy (t := "str") (by decide) rfl T.b_isinstance rfl T.b_str (by decide +kernel) (q_var 11)))) (qw_or (qt_cmp (op_neM hr.units) nx_ne (q_var 11) (q_ix (hu_of hr) (q_var 6) (q_int) (fun _ _ => rfl)) (nomark _)) (qw_or1 (qt_not (qt_val (q_call ((ok__law_same T 200).mono (by first | decide | exact Nat.le_add_right _ _ | omega)) hr (L2N.takes_of rfl rfl rfl rfl) rfl (qa_cons (q_call ((ok_read_value T).mono (by first | decide | exact Nat.le_add_right _ _ | omega)) hr (L2N.takes_of rfl rfl rfl rfl) rfl (qa_cons (q_ix (hu_of hr) (q_var 6) (q_int) (fun _ _ => rfl)) (qa_nil))) (qa_cons (q_ix (hu_of hr) (q_var 6) (q_int) (fun _ _ => rfl)) (qa_nil))))))))))
    (qss_one (qs_ret (q_bl)))
    (qss_nil))
    (qss_one (qs_if (qt_w (qw_or (qt_cmp op_notBM nx_notB (q_call ((ok_is_plain T).mono (by first | decide | exact Nat.le_add_right _ _ | omega)) hr (L2N.takes_of rfl rfl rfl rfl) rfl (qa_cons (q_ix (hu_of hr) (q_var 6) (q_int) (fun _ _ => rfl)) (qa_nil))) (q_bl) (nomark _)) (qw_or1 (qt_cmp op_notBM nx_notB (q_call ((ok_is_plain T).mono (by first | decide | exact Nat.le_add_right _ _ | omega)) hr (L2N.takes_of rfl rfl rfl rfl) rfl (qa_cons (q_call ((ok__law_odd T).mono (by first | decide | exact Nat.le_add_right _ _ | omega)) hr (L2N.takes_of rfl rfl rfl rfl) rfl (qa_cons (q_var 1) (qa_cons (q_ix (hu_of hr) (q_var 6) (q_int) (fun _ _ => rfl)) (qa_nil)))) (qa_nil))) (q_bl) (nomark _)))))
    (qss_one (qs_ret (q_bl)))
    (qss_nil))))))
    (qss_cons (qs_set (i := 7) sc_law.nd rfl (by first | exact Or.inl rfl | exact Or.inr rfl) (q_tup (qa_cons (q_op op_subM nx_sub (q_op op_powM nx_pow (q_int) (q_int)) (q_int)) (qa_cons (q_op op_subM nx_sub (q_int) (q_op op_powM nx_pow (q_int) (q_int))) (qa_cons (q_var 3) (qa_nil))))))
    (qss_cons (qs_if (qt_cmp (op_neM hr.units) nx_ne (q_call ((ok_write_value T).mono (by first | decide | exact Nat.le_add_right _ _ | omega)) hr (L2N.takes_of rfl rfl rfl rfl) rfl (qa_cons (q_var 7) (qa_nil))) (q_op op_addM nx_add (q_op op_addM nx_add (q_op op_addM nx_add (q_op op_addM nx_add (q_op op_addM nx_add (q_op op_addM nx_add (q_str [40]) (q_op op_mulM nx_mul (q_str [57]) (q_int))) (q_str [32, 45])) (q_op op_mulM nx_mul (q_str [57]) (q_int))) (q_str [32])) (q_var 4)) (q_str [41])) (nomark _))
    (qss_one (qs_ret (q_bl)))
    (qss_nil))
    (qss_cons (qs_set (i := 8) sc_law.nd rfl (by first | exact Or.inl rfl | exact Or.inr rfl) (q_call ((ok__law_bad_leaf T).mono (by first | decide | exact Nat.le_add_right _ _ | omega)) hr (L2N.takes_of rfl rfl rfl rfl) rfl (qa_cons (q_var 1) (qa_nil))))
    (qss_cons (qs_for (passes_of rfl) rfl (qi_seq (q_lst (qa_cons (q_var 8) (qa_cons (q_tup (qa_cons (q_var 3) (qa_cons (q_var 8) (qa_nil)))) (qa_cons (q_op op_addM nx_add (q_tup (qa_cons (q_var 8) (qa_nil))) (q_var 7)) (qa_cons (q_tup (qa_cons (q_tup (qa_nil)) (qa_cons (q_tup (qa_cons (q_tup (qa_cons (q_var 3) (qa_cons (q_tup (qa_cons (q_var 8) (qa_cons (q_int) (qa_nil)))) (qa_nil)))) (qa_nil))) (qa_nil)))) (qa_cons (q_op op_powM nx_pow (q_int) (q_int)) (qa_cons (q_tup (qa_cons (q_var 3) (qa_cons (q_un un_negM nx_neg (q_op op_powM nx_pow (q_int) (q_int))) (qa_nil)))) (qa_nil))))))))) (qg_nm (i := 6) sc_law.nd rfl (by first | exact Or.inl rfl | exact Or.inr rfl))
    (qss_one (qs_if (qt_not (qt_val (q_call ((ok__law_refuses T).mono (by first | decide | exact Nat.le_add_right _ _ | omega)) hr (L2N.takes_of rfl rfl rfl rfl) rfl (qa_cons (q_var 6) (qa_nil)))))
    (qss_one (qs_ret (q_bl)))
    (qss_nil))))
    (qss_cons (qs_set (i := 9) sc_law.nd rfl (by first | exact Or.inl rfl | exact Or.inr rfl) (q_lstC (qa_cons (q_var 4) (qa_cons (q_op op_addM nx_add (q_var 4) (q_call ((ok__law_pick T).mono (by first | decide | exact Nat.le_add_right _ _ | omega)) hr (L2N.takes_of rfl rfl rfl rfl) rfl (qa_cons (q_var 1) (qa_cons (q_str [40, 41, 32, 39, 45, 48, 59]) (qa_nil))))) (qa_cons (q_op op_addM nx_add (q_call ((ok__law_pick T).mono (by first | decide | exact Nat.le_add_right _ _ | omega)) hr (L2N.takes_of rfl rfl rfl rfl) rfl (qa_cons (q_var 1) (qa_cons (q_str [32, 40, 48, 45, 39]) (qa_nil)))) (q_var 4)) (qa_nil))))))
    (qss_cons (qs_for (passes_of rfl) rfl (qi_rng1 rfl T.b_range (q_int)) (qg_nm (i := 10) sc_law.nd rfl (by first | exact Or.inl rfl | exact Or.inr rfl))
    (qss_cons (qs_expr (q_m1 PySem.F.plainAttrs_list PySem.F.slot_list_append PySem.F.type_list_append mt_appendM nx_append (q_var 9) (q_call ((ok__law_turned T).mono (by first | decide | exact Nat.le_add_right _ _ | omega)) hr (L2N.takes_of rfl rfl rfl rfl) rfl (qa_cons (q_var 1) (qa_cons (q_call ((ok__law_pick T).mono (by first | decide | exact Nat.le_add_right _ _ | omega)) hr (L2N.takes_of rfl rfl rfl rfl) rfl (qa_cons (q_var 1) (qa_cons (q_lst (qa_cons (q_var 4) (qa_cons (q_ix (hu_of hr) (q_var 5) (q_int) (fun _ _ => rfl)) (qa_cons (q_ix (hu_of hr) (q_var 9) (q_un un_negM nx_neg (q_int)) (fun _ _ => rfl)) (qa_nil))))) (qa_nil)))) (qa_nil))))))
    (qss_cons (qs_set (i := 12) sc_law.nd rfl (by first | exact Or.inl rfl | exact Or.inr rfl) (q_call ((ok__law_number T).mono (by first | decide | exact Nat.le_add_right _ _ | omega)) hr (L2N.takes_of rfl rfl rfl rfl) rfl (qa_cons (q_var 1) (qa_cons (q_op op_addM nx_add (q_int) (q_call ((ok__law_draw T).mono (by first | decide | exact Nat.le_add_right _ _ | omega)) hr (L2N.takes_of rfl rfl rfl rfl) rfl (qa_cons (q_var 1) (qa_cons (q_int) (qa_nil))))) (qa_nil)))))
    (qss_cons (qs_expr (q_m1 PySem.F.plainAttrs_list PySem.F.slot_list_append PySem.F.type_list_append mt_appendM nx_append (q_var 9) (q_op op_addM nx_add (q_op op_addM nx_add (q_call ((ok__law_pick T).mono (by first | decide | exact Nat.le_add_right _ _ | omega)) hr (L2N.takes_of rfl rfl rfl rfl) rfl (qa_cons (q_var 1) (qa_cons (q_lst (qa_cons (q_str []) (qa_cons (q_str [40]) (qa_cons (q_str [40, 45, 32]) (qa_cons (q_str [40, 39, 39, 32, 48]) (qa_nil)))))) (qa_nil)))) (q_var 12)) (q_call ((ok__law_pick T).mono (by first | decide | exact Nat.le_add_right _ _ | omega)) hr (L2N.takes_of rfl rfl rfl rfl) rfl (qa_cons (q_var 1) (qa_cons (q_lst (qa_cons (q_str []) (qa_cons (q_str [41]) (qa_cons (q_str [32, 49, 41]) (qa_cons (q_str [48, 41]) (qa_cons (q_str [32]) (qa_nil))))))) (qa_nil)))))))
    (qss_one (qs_expr (q_m1 PySem.F.plainAttrs_list PySem.F.slot_list_append PySem.F.type_list_append mt_appendM nx_append (q_var 9) (q_m1 PySem.F.plainAttrs_str PySem.F.slot_str_join PySem.F.type_str_join mt_joinM nx_join (q_str []) (q_lc (own := [("j", 13)]) rfl sc_law.nd (qi_rng1 rfl T.b_range (q_call ((ok__law_draw T).mono (by first | decide | exact Nat.le_add_right _ _ | omega)) hr (L2N.takes_of rfl rfl rfl rfl) rfl (qa_cons (q_var 1) (qa_cons (q_int) (qa_nil))))) (blkOk_by (by kernel_rfl)) (fun _ _ _ _ _ => qgw_nm (i := 13) sc_law.nd rfl (by first | exact Or.inl rfl | exact Or.inr rfl) (by decide)) (fun _ _ _ _ _ => qts_nil) (fun _ _ _ _ _ => q_call ((ok__law_pick T).mono (by first | decide | exact Nat.le_add_right _ _ | omega)) hr takesN rfl (qa_cons (q_var 1) (qa_cons (q_str [40, 40, 40, 41, 41, 41, 39, 39, 32, 45, 48, 49, 50, 51, 59, 97]) (qa_nil)))))))))))))
    (qss_one (qs_ret (q_cmp (op_eqM hr.units) nx_eq (q_callB call_lenM nx_len rfl T.b_len (by decide +kernel) (qa_cons (q_lc (own := [("row", 6)]) rfl sc_law.nd (qi_seq (q_var 9)) (blkOk_by (by kernel_rfl)) (fun _ _ _ _ _ => qgw_nm (i := 6) sc_law.nd rfl (by first | exact Or.inl rfl | exact Or.inr rfl) (by decide)) (fun _ _ _ _ _ => qts_one (qt_not (qt_val (q_call ((ok__law_asked T).mono (by first | decide | exact Nat.le_add_right _ _ | omega)) hr takesN rfl (qa_cons (q_var 6) (qa_nil)))))) (fun _ _ _ _ _ => q_var 6)) (qa_nil))) (q_int) (nomark _)))))))))))))))))
end
end Lk94

end

section
set_option maxHeartbeats 4000000
/-! Mk94: plain values as texts: writing, the reader's machine. Plain Lean. -/
namespace Cd
open Mi
def sgn (c : Nat) : Bool := decide (32 ≤ c) && decide (c ≤ 126) && !(c == 37) && !(c == 39) && !(c == 59)
theorem sgn_iff {c : Nat} : sgn c = true ↔ 32 ≤ c ∧ c ≤ 126 ∧ c ≠ 37 ∧ c ≠ 39 ∧ c ≠ 59 := by
  simp [sgn, and_assoc]
def okc (c : Nat) : Bool := sgn c || c == 10
def semi (c : Nat) : Nat := if c = 10 then 59 else c
mutual
def W : AV → List Nat
  | .non => [45]
  | .int i => intL i
  | .str s => 39 :: (s.map semi ++ [39])
  | .tup xs => 40 :: (Ws xs ++ [41])
  | _ => []
def Ws : List AV → List Nat
  | [] => []
  | [x] => W x
  | x :: y :: r => W x ++ 32 :: Ws (y :: r)
end
mutual
def good : AV → Bool
  | .non => true
  | .int i => decide (i.natAbs < 10 ^ 30)
  | .str s => s.all okc
  | .tup xs => goods xs
  | _ => false
def goods : List AV → Bool
  | [] => true
  | x :: r => good x && goods r
end
mutual
def tn : AV → Nat
  | .tup xs => 1 + tns xs
  | _ => 0
def tns : List AV → Nat
  | [] => 0
  | x :: r => tn x + tns r
end
theorem goods_app : ∀ (a b : List AV), goods (a ++ b) = (goods a && goods b)
  | [], b => by simp [goods]
  | x :: a, b => by simp [goods, goods_app a b, Bool.and_assoc]
theorem tns_app : ∀ (a b : List AV), tns (a ++ b) = tns a + tns b
  | [], b => by simp [tns]
  | x :: a, b => by simp [tns, tns_app a b, Nat.add_assoc]
def sep (xs : List AV) : List Nat := if xs = [] then [] else Ws xs ++ [32]
theorem Ws_snoc : ∀ (xs : List AV) (v : AV), Ws (xs ++ [v]) = sep xs ++ W v
  | [], v => by simp [sep, Ws]
  | [x], v => by simp [sep, Ws]
  | x :: y :: r, v => by
    show Ws (x :: (y :: r ++ [v])) = _
    have := Ws_snoc (y :: r) v
    have e : sep (x :: y :: r) = W x ++ 32 :: sep (y :: r) := by simp [sep, Ws]
    rw [e]
    show W x ++ 32 :: Ws (y :: (r ++ [v])) = _
    rw [show y :: (r ++ [v]) = (y :: r) ++ [v] from rfl, this]
    simp
theorem sep_snoc (xs : List AV) (v : AV) : sep (xs ++ [v]) = sep xs ++ W v ++ [32] := by
  rw [← Ws_snoc]
  simp [sep]
/-! ### the machine -/
inductive Md where
  | value | opn | text | leaf | behind
  deriving DecidableEq
structure MS where
  m : Md
  w : List Nat
  R : List (List AV)
def leafV (w : List Nat) : AV := if w = [45] then .non else match intOf w with
  | some i => .int i
  | none => .non
def goesOn (w : List Nat) (c : Nat) : Bool := isD c && !(w == [48]) && (if w = [45] then !(c == 48) else decide ((w.length : Int) - b2i (w.head? == some 45) < 30))
def push (v : AV) : List (List AV) → List (List AV)
  | [] => []
  | T :: R => (T ++ [v]) :: R
/-- a tuple is closed -/
def popT : List (List AV) → List (List AV)
  | T :: R => push (.tup T) R
  | [] => []
def shut (w : List Nat) (R : List (List AV)) (c : Nat) : Option MS :=
  if 1 < R.length then (if c = 32 then some ⟨.value, w, R⟩ else if c = 41 then some ⟨.behind, w, popT R⟩ else none) else none
def opens (c : Nat) : Bool := c == 40 || c == 39 || c == 45 || isD c
def enter (R : List (List AV)) (c : Nat) : MS := if c = 40 then ⟨.opn, [], [] :: R⟩ else if c = 39 then ⟨.text, [], R⟩ else ⟨.leaf, [c], R⟩
def step (q : MS) (c : Nat) : Option MS := match q.m with
  | .text => if c = 39 then some ⟨.behind, q.w, push (.str (repC 59 [10] q.w)) q.R⟩ else if (sgn c || c == 59) = true then some ⟨.text, q.w ++ [c], q.R⟩ else none
  | .leaf => if goesOn q.w c = true then some ⟨.leaf, q.w ++ [c], q.R⟩ else shut q.w (push (leafV q.w) q.R) c
  | .value => if opens c = true then some (enter q.R c) else none
  | .opn => if opens c = true then some (enter q.R c) else if c = 41 then some ⟨.behind, q.w, popT q.R⟩ else none
  | .behind => shut q.w q.R c
def bottom (R : List (List AV)) : AV := ((R.head?.getD []).head?).getD .non
def fin (q : MS) (n : Nat) : Sum Nat AV :=
  if 1 < q.R.length ∨ q.m = .value ∨ q.m = .text then .inl n else .inr (bottom (if q.m = .leaf then push (leafV q.w) q.R else q.R))
def mrun : MS → Nat → List Nat → Sum Nat AV
  | q, n, [] => fin q n
  | q, n, c :: r => match step q c with
    | some q' => mrun q' (n + 1) r
    | none => .inl n
def P (s : List Nat) : Sum Nat AV := mrun ⟨.value, [], [[]]⟩ 0 s
/-- many steps -/
def steps : MS → List Nat → Option MS
  | q, [] => some q
  | q, c :: r => match step q c with
    | some q' => steps q' r
    | none => none
theorem steps_app : ∀ (a b : List Nat) (q : MS), steps q (a ++ b) = (steps q a).bind fun q' => steps q' b
  | [], b, q => rfl
  | c :: a, b, q => by
    show (match step q c with | some q' => steps q' (a ++ b) | none => none) = Option.bind (match step q c with | some q' => steps q' a | none => none) _
    cases step q c with
    | none => rfl
    | some q' => exact steps_app a b q'
theorem mrun_steps : ∀ (a b : List Nat) (q q' : MS) (n : Nat), steps q a = some q' → mrun q n (a ++ b) = mrun q' (n + a.length) b
  | [], b, q, q', n, h => by
    cases h
    rfl
  | c :: a, b, q, q', n, h => by
    have h : (match step q c with | some q' => steps q' a | none => none) = some q' := h
    show (match step q c with | some q' => mrun q' (n + 1) (a ++ b) | none => .inl n) = _
    cases e : step q c with
    | none => rw [e] at h; cases h
    | some q1 =>
      rw [e] at h
      dsimp only at h ⊢
      rw [mrun_steps a b q1 q' (n + 1) h]
      congr 1
      simp
      omega
/-! ### what is written is read -/
/-- v has been read over the rows R -/
def Done (v : AV) (R : List (List AV)) (q : MS) : Prop := (q.m = .behind ∧ q.R = push v R) ∨ (q.m = .leaf ∧ q.R = R ∧ leafV q.w = v)
theorem push_len (v : AV) (R : List (List AV)) : (push v R).length = R.length := by cases R <;> rfl
theorem goes_no {w : List Nat} {c : Nat} (h : isD c = false) : goesOn w c = false := by
  unfold goesOn
  rw [h]
  rfl
theorem Done.step {v : AV} {R : List (List AV)} {q : MS} (d : Done v R q) (hR : 1 < R.length) {c : Nat} (hc : c = 32 ∨ c = 41) : Cd.step q c = some (if c = 32 then ⟨.value, q.w, push v R⟩ else ⟨.behind, q.w, popT (push v R)⟩) := by
  have hD : isD c = false := by rcases hc with rfl | rfl <;> decide
  have hs : shut q.w (push v R) c = some (if c = 32 then ⟨.value, q.w, push v R⟩ else ⟨.behind, q.w, popT (push v R)⟩) := by
    unfold shut
    rw [if_pos (by rw [push_len]; exact hR)]
    rcases hc with rfl | rfl <;> simp
  rcases d with ⟨h1, h2⟩ | ⟨h1, h2, h3⟩
  · unfold Cd.step
    rw [h1]
    dsimp only
    rw [h2]
    exact hs
  · unfold Cd.step
    rw [h1]
    dsimp only
    rw [goes_no hD, h2, h3]
    exact hs
theorem Done.fin {v : AV} {q : MS} (d : Done v [[]] q) (n : Nat) : Cd.fin q n = .inr v := by
  unfold Cd.fin
  rcases d with ⟨h1, h2⟩ | ⟨h1, h2, h3⟩
  · rw [h1, h2]
    simp [push, bottom]
  · rw [h1, h2, h3]
    simp [push, bottom]
/-- a state in which a value may begin -/
def Beg (q : MS) : Prop := q.m = .value ∨ q.m = .opn
theorem Beg.enter {q : MS} (b : Beg q) {c : Nat} (h : opens c = true) : step q c = some (enter q.R c) := by
  unfold step
  rcases b with b | b <;> rw [b] <;> simp [h]
theorem semi_back {s : List Nat} (h : s.all okc = true) : repC 59 [10] (s.map semi) = s := by
  induction s with
  | nil => rfl
  | cons c s ih =>
    rw [List.all_cons, Bool.and_eq_true] at h
    show (if semi c = 59 then [10] else [semi c]) ++ repC 59 [10] (s.map semi) = _
    rw [ih h.2]
    unfold semi
    by_cases hc : c = 10
    · subst hc
      rfl
    · have : c ≠ 59 := fun z => by
        subst z
        simp [okc, sgn] at h
      rw [if_neg hc, if_neg this]
      rfl
theorem steps_text {R : List (List AV)} : ∀ (s w : List Nat), s.all okc = true → steps ⟨.text, w, R⟩ (s.map semi) = some ⟨.text, w ++ s.map semi, R⟩
  | [], w, _ => by simp [steps]
  | c :: s, w, h => by
    rw [List.all_cons, Bool.and_eq_true] at h
    have hc : semi c ≠ 39 ∧ (sgn (semi c) || semi c == 59) = true := by
      have h1 := h.1
      unfold okc at h1
      rw [Bool.or_eq_true] at h1
      unfold semi
      by_cases hc : c = 10
      · rw [if_pos hc]
        decide
      · rw [if_neg hc]
        rcases h1 with h1 | h1
        · exact ⟨(sgn_iff.mp h1).2.2.2.1, by rw [h1]; rfl⟩
        · exact absurd (by simpa using h1) hc
    have e : step ⟨.text, w, R⟩ (semi c) = some ⟨.text, w ++ [semi c], R⟩ := by
      show (if semi c = 39 then _ else if (sgn (semi c) || semi c == 59) = true then _ else _) = _
      rw [if_neg hc.1, if_pos hc.2]
    rw [List.map_cons]
    show (match step ⟨.text, w, R⟩ (semi c) with | some q' => steps q' (s.map semi) | none => none) = _
    rw [e]
    dsimp only
    rw [steps_text s _ h.2]
    simp
/-- figures go on behind figures -/
theorem steps_dig {R : List (List AV)} : ∀ (ds w : List Nat), (∀ c ∈ ds, isD c = true) → w ≠ [48] → w ≠ [45] → w ≠ [] → (w.length : Int) - b2i (w.head? == some 45) + ds.length ≤ 30 → steps ⟨.leaf, w, R⟩ ds = some ⟨.leaf, w ++ ds, R⟩
  | [], w, _, _, _, _, _ => by simp [steps]
  | c :: ds, w, hd, h0, h1, h2, hl => by
    have hg : goesOn w c = true := by
      unfold goesOn
      rw [hd c (by simp), if_neg h1]
      simp only [List.length_cons] at hl
      have : ((w.length : Int) - b2i (w.head? == some 45) < 30) := by omega
      simp [h0, this]
    have hh : (w ++ [c]).head? = w.head? := by
      cases w with
      | nil => exact absurd rfl h2
      | cons a w => rfl
    show (match (if goesOn w c = true then some (⟨.leaf, w ++ [c], R⟩ : MS) else _) with | some q' => steps q' ds | none => none) = _
    rw [if_pos hg]
    dsimp only
    have hlen2 : (w ++ [c]).length = w.length + 1 := by simp
    rw [steps_dig ds (w ++ [c]) (fun x hx => hd x (List.mem_cons_of_mem _ hx)) (fun z => by
      have := congrArg List.length z
      rw [hlen2] at this
      simp at this
      exact h2 this) (fun z => by
      have := congrArg List.length z
      rw [hlen2] at this
      simp at this
      exact h2 this) (by simp) (by
      rw [hh, hlen2]
      simp only [List.length_cons] at hl
      omega)]
    simp
theorem steps_num {R : List (List AV)} (n : Nat) (hn : n < 10 ^ 30) (q : MS) (b : Beg q) (hR : q.R = R) : steps q (numL n) = some ⟨.leaf, numL n, R⟩ := by
  have hl := (numL_len (k := 30) (by decide)).mpr hn
  have hd := numL_dig n
  cases e : numL n with
  | nil => exact absurd e (numL_ne n)
  | cons c r =>
    rw [e] at hl hd
    have hc := hd c (by simp)
    have ho : opens c = true := by unfold opens; rw [hc]; simp
    have hcD := isD_iff.mp hc
    show (match step q c with | some q' => steps q' r | none => none) = _
    rw [b.enter ho]
    unfold enter
    rw [if_neg (by omega), if_neg (by omega), hR]
    dsimp only
    by_cases hr : r = []
    · subst hr
      rfl
    · rcases numL_canon n with h | ⟨⟨c', r', h, hc'⟩, _⟩
      · rw [e] at h
        cases h
        exact absurd rfl hr
      · rw [e] at h
        cases h
        have := steps_dig (R := R) r [c] (fun x hx => hd x (List.mem_cons_of_mem _ hx)) (by simpa using hc') (by simp; omega) (by simp) (by
          have : ([c].head? == some 45) = false := by simp; omega
          rw [this]
          simp only [List.length_cons] at hl
          simp [b2i]
          omega)
        simpa using this
theorem leafV_num (n : Nat) : leafV (numL n) = .int n := by
  unfold leafV
  have : numL n ≠ [45] := fun z => by
    have := numL_dig n 45 (by rw [z]; simp)
    simp [isD] at this
  rw [if_neg this, intOf_num (canon_digs (numL_canon n)), numOf_numL]
theorem leafV_neg {n : Nat} (h : 0 < n) : leafV (45 :: numL n) = .int (-(n : Int)) := by
  unfold leafV
  have : (45 :: numL n) ≠ [45] := fun z => numL_ne n (by simpa using z)
  rw [if_neg this, intOf_neg (canon_digs (numL_canon n)), numOf_numL]
theorem read_int {i : Int} (h : i.natAbs < 10 ^ 30) (q : MS) (b : Beg q) : ∃ q', steps q (intL i) = some q' ∧ Done (.int i) q.R q' := by
  by_cases hi : i < 0
  · obtain ⟨n, hn, rfl⟩ : ∃ n : Nat, 0 < n ∧ i = -(n : Int) := ⟨i.natAbs, by omega, by omega⟩
    have hn2 : n < 10 ^ 30 := by
      have : (-(n : Int)).natAbs = n := by omega
      rw [this] at h
      exact h
    rw [intL_neg hn]
    have hl := (numL_len (k := 30) (by decide)).mpr hn2
    have hd := numL_dig n
    obtain ⟨c, r, e, hc⟩ := numL_head n hn
    refine ⟨⟨.leaf, 45 :: numL n, q.R⟩, ?_, .inr ⟨rfl, rfl, leafV_neg hn⟩⟩
    rw [e] at hl hd
    show (match step q 45 with | some q' => steps q' (numL n) | none => none) = _
    rw [b.enter (by decide)]
    show steps (enter q.R 45) (numL n) = _
    rw [e]
    have hcD := isD_iff.mp (hd c (by simp))
    show (match (if goesOn [45] c = true then some (⟨.leaf, [45] ++ [c], q.R⟩ : MS) else _) with | some q' => steps q' r | none => none) = _
    rw [if_pos (by
      unfold goesOn
      rw [hd c (by simp)]
      simp
      exact hc)]
    dsimp only
    have := steps_dig (R := q.R) r [45, c] (fun x hx => hd x (List.mem_cons_of_mem _ hx)) (by simp) (by simp) (by simp) (by
      have : ([45, c].head? == some 45) = true := by simp
      rw [this]
      simp only [List.length_cons] at hl
      simp [b2i]
      omega)
    simpa using this
  · obtain ⟨n, rfl⟩ := Int.eq_ofNat_of_zero_le (show 0 ≤ i by omega)
    have hn2 : n < 10 ^ 30 := h
    rw [intL_nat]
    exact ⟨_, steps_num n hn2 q b rfl, .inr ⟨rfl, rfl, leafV_num n⟩⟩
mutual
theorem read_W : ∀ (v : AV) (q : MS), good v = true → Beg q → q.R ≠ [] → ∃ q', steps q (W v) = some q' ∧ Done v q.R q'
  | .non, q, _, b, _ => ⟨⟨.leaf, [45], q.R⟩, by
      show (match step q 45 with | some q' => steps q' [] | none => none) = _
      rw [b.enter (by decide)]
      rfl, .inr ⟨rfl, rfl, rfl⟩⟩
  | .int i, q, h, b, _ => by
    have h : i.natAbs < 10 ^ 30 := by unfold good at h; exact of_decide_eq_true h
    rw [W]
    exact read_int h q b
  | .str s, q, h, b, _ => by
    unfold good at h
    refine ⟨⟨.behind, s.map semi, push (.str s) q.R⟩, ?_, .inl ⟨rfl, rfl⟩⟩
    rw [W]
    show (match step q 39 with | some q' => steps q' (s.map semi ++ [39]) | none => none) = _
    rw [b.enter (by decide)]
    show steps ⟨.text, [], q.R⟩ (s.map semi ++ [39]) = _
    rw [steps_app, steps_text s [] h]
    show some (⟨.behind, [] ++ s.map semi, push (.str (repC 59 [10] ([] ++ s.map semi))) q.R⟩ : MS) = _
    rw [List.nil_append, semi_back h]
  | .tup xs, q, h, b, hR => by
    unfold good at h
    have e1 : steps q (W (.tup xs)) = steps ⟨.opn, [], [] :: q.R⟩ (Ws xs ++ [41]) := by
      rw [W]
      show (match step q 40 with | some q' => steps q' (Ws xs ++ [41]) | none => none) = _
      rw [b.enter (by decide)]
      rfl
    rw [e1]
    have hR1 : 0 < q.R.length := List.length_pos_iff.mpr hR
    by_cases hx : xs = []
    · subst hx
      exact ⟨⟨.behind, [], push (.tup []) q.R⟩, rfl, .inl ⟨rfl, rfl⟩⟩
    · obtain ⟨q', e2, d⟩ := read_Ws xs ⟨.opn, [], [] :: q.R⟩ [] q.R h (.inr rfl) rfl hx hR1
      have e3 := d.step (c := 41) (by simp only [List.length_cons]; omega) (.inr rfl)
      refine ⟨⟨.behind, q'.w, push (.tup xs) q.R⟩, ?_, .inl ⟨rfl, rfl⟩⟩
      rw [steps_app, e2]
      show (match step q' 41 with | some q' => steps q' [] | none => none) = _
      rw [e3]
      have : ([] ++ xs.dropLast) ++ [xs.getLast hx] = xs := by rw [List.nil_append, List.dropLast_concat_getLast]
      show some (⟨.behind, q'.w, push (.tup (([] ++ xs.dropLast) ++ [xs.getLast hx])) q.R⟩ : MS) = _
      rw [this]
  | .bl _, _, h, _, _ => by simp [good] at h
  | .lst _, _, h, _, _ => by simp [good] at h
  | .scr _ _, _, h, _, _ => by simp [good] at h
  | .cel _, _, h, _, _ => by simp [good] at h
  | .xcp _ _ _, _, h, _, _ => by simp [good] at h
theorem read_Ws : ∀ (xs : List AV) (q : MS) (T : List AV) (R : List (List AV)), goods xs = true → Beg q → q.R = T :: R → (hx : xs ≠ []) → 0 < R.length → ∃ q', steps q (Ws xs) = some q' ∧ Done (xs.getLast hx) ((T ++ xs.dropLast) :: R) q'
  | [], _, _, _, _, _, _, hx, _ => absurd rfl hx
  | [x], q, T, R, h, b, hR, _, hl => by
    simp only [goods, Bool.and_true] at h
    obtain ⟨q', e, d⟩ := read_W x q h b (by rw [hR]; simp)
    refine ⟨q', e, ?_⟩
    rw [hR] at d
    simpa using d
  | x :: y :: r, q, T, R, h, b, hR, _, hl => by
    simp only [goods, Bool.and_eq_true] at h
    obtain ⟨q1, e1, d1⟩ := read_W x q h.1 b (by rw [hR]; simp)
    rw [hR] at d1
    have e2 := d1.step (c := 32) (by simp only [List.length_cons]; omega) (.inl rfl)
    obtain ⟨q2, e3, d2⟩ := read_Ws (y :: r) ⟨.value, q1.w, (T ++ [x]) :: R⟩ (T ++ [x]) R (by simp only [goods, Bool.and_eq_true]; exact h.2) (.inl rfl) rfl (by simp) hl
    refine ⟨q2, ?_, ?_⟩
    · show steps q (W x ++ 32 :: Ws (y :: r)) = _
      rw [steps_app, e1]
      show (match step q1 32 with | some q' => steps q' (Ws (y :: r)) | none => none) = _
      rw [e2]
      exact e3
    · have e4 : (x :: y :: r).getLast (by simp) = (y :: r).getLast (by simp) := by simp
      have e5 : T ++ (x :: y :: r).dropLast = (T ++ [x]) ++ (y :: r).dropLast := by simp
      rw [e4, e5]
      exact d2
end
theorem P_W {v : AV} (h : good v = true) : P (W v) = .inr v := by
  obtain ⟨q', e, d⟩ := read_W v ⟨.value, [], [[]]⟩ h (.inl rfl) (by simp)
  unfold P
  have := mrun_steps (W v) [] ⟨.value, [], [[]]⟩ q' 0 e
  rw [List.append_nil] at this
  rw [this]
  exact d.fin _
/-! ### what is read is written so -/
/-- rows, the top first, the bottom one last: the text ahead of the next value -/
def pre : List (List AV) → List Nat
  | [] => []
  | [_] => []
  | T :: R => pre R ++ 40 :: sep T
theorem pre_cons {T : List AV} {R : List (List AV)} (h : R ≠ []) : pre (T :: R) = pre R ++ 40 :: sep T := by
  cases R with
  | nil => exact absurd rfl h
  | cons a R => rfl
/-- a leaf's word -/
def lf (w : List Nat) : Prop := w = [45] ∨ (canon w ∧ w.length ≤ 30) ∨ ∃ ds, w = 45 :: ds ∧ canon ds ∧ ds ≠ [48] ∧ ds.length ≤ 30
theorem canon_ne {w : List Nat} (h : canon w) : w ≠ [45] ∧ w ≠ [] ∧ w.head? ≠ some 45 := by
  rcases h with rfl | ⟨⟨c, r, rfl, hc⟩, hd⟩
  · exact ⟨by decide, by decide, by decide⟩
  · have := isD_iff.mp (hd c (by simp))
    refine ⟨fun z => ?_, by simp, fun z => ?_⟩
    · simp at z
      omega
    · simp at z
      omega
theorem canon_snoc {w : List Nat} {c : Nat} (h : canon w) (h0 : w ≠ [48]) (hc : isD c = true) : canon (w ++ [c]) := by
  rcases h with h | ⟨⟨a, r, rfl, ha⟩, hd⟩
  · exact absurd h h0
  · refine .inr ⟨⟨a, r ++ [c], rfl, ha⟩, fun x hx => ?_⟩
    rcases List.mem_append.mp hx with hx | hx
    · exact hd x hx
    · simp at hx
      subst hx
      exact hc
theorem lf_go {w : List Nat} {c : Nat} (h : lf w) (hg : goesOn w c = true) : lf (w ++ [c]) := by
  unfold goesOn at hg
  rw [Bool.and_eq_true, Bool.and_eq_true] at hg
  obtain ⟨⟨hD, h48⟩, hr⟩ := hg
  have h48 : w ≠ [48] := by simpa using h48
  rcases h with rfl | ⟨hc, hl⟩ | ⟨ds, rfl, hc, h0, hl⟩
  · have hr : c ≠ 48 := by simpa using hr
    refine .inr (.inr ⟨[c], rfl, .inr ⟨⟨c, [], rfl, hr⟩, by simpa using hD⟩, by simpa using hr, by simp⟩)
  · have hn := canon_ne hc
    rw [if_neg hn.1] at hr
    have : (w.head? == some 45) = false := by simpa using hn.2.2
    rw [this] at hr
    simp [b2i] at hr
    exact .inr (.inl ⟨canon_snoc hc h48 hD, by simp; omega⟩)
  · have hne : (45 :: ds) ≠ [45] := fun z => (canon_ne hc).2.1 (by simpa using z)
    rw [if_neg hne] at hr
    have : ((45 :: ds).head? == some 45) = true := by simp
    rw [this] at hr
    simp [b2i] at hr
    refine .inr (.inr ⟨ds ++ [c], rfl, canon_snoc hc h0 hD, fun z => ?_, by simp; omega⟩)
    have := congrArg List.length z
    simp at this
    exact (canon_ne hc).2.1 this
theorem lf_val {w : List Nat} (h : lf w) : W (leafV w) = w ∧ good (leafV w) = true ∧ tn (leafV w) = 0 := by
  rcases h with rfl | ⟨hc, hl⟩ | ⟨ds, rfl, hc, h0, hl⟩
  · exact ⟨rfl, rfl, rfl⟩
  · have hn := canon_ne hc
    have e : leafV w = .int ((numOf w : Nat) : Int) := by
      unfold leafV
      rw [if_neg hn.1, intOf_num (canon_digs hc)]
    rw [e]
    have h1 := numL_numOf w hc
    refine ⟨by rw [W, intL_nat, h1], ?_, rfl⟩
    unfold good
    rw [decide_eq_true_iff, Int.natAbs_natCast, ← numL_len (by decide), h1]
    exact hl
  · have hne : (45 :: ds) ≠ [45] := fun z => (canon_ne hc).2.1 (by simpa using z)
    have e : leafV (45 :: ds) = .int (-((numOf ds : Nat) : Int)) := by
      unfold leafV
      rw [if_neg hne, intOf_neg (canon_digs hc)]
    rw [e]
    have h1 := numL_numOf ds hc
    have hp : 0 < numOf ds := by
      rcases hc with hc | ⟨hc, hd⟩
      · exact absurd hc h0
      · obtain ⟨c, r, e, hc⟩ := hc
        exact numOf_pos ds (by rw [e]; simp) hd ⟨c, r, e, hc⟩
    refine ⟨by rw [W, intL_neg hp, h1], ?_, rfl⟩
    unfold good
    rw [decide_eq_true_iff, Int.natAbs_neg, Int.natAbs_natCast, ← numL_len (by decide), h1]
    exact hl
theorem unsemi_back {w : List Nat} (h : w.all (fun c => sgn c || c == 59) = true) : (repC 59 [10] w).map semi = w ∧ (repC 59 [10] w).all okc = true := by
  induction w with
  | nil => exact ⟨rfl, rfl⟩
  | cons c w ih =>
    rw [List.all_cons, Bool.and_eq_true] at h
    obtain ⟨i1, i2⟩ := ih h.2
    have e : repC 59 [10] (c :: w) = (if c = 59 then [10] else [c]) ++ repC 59 [10] w := rfl
    rw [e]
    by_cases hc : c = 59
    · subst hc
      rw [if_pos rfl]
      refine ⟨?_, ?_⟩
      · show semi 10 :: (repC 59 [10] w).map semi = _
        rw [i1]
        rfl
      · show (okc 10 && (repC 59 [10] w).all okc) = true
        rw [i2]
        decide
    · rw [if_neg hc]
      have h1 : sgn c = true := by
        have := h.1
        simpa [hc] using this
      have h2 := sgn_iff.mp h1
      refine ⟨?_, ?_⟩
      · show semi c :: (repC 59 [10] w).map semi = _
        rw [i1]
        unfold semi
        rw [if_neg (by omega)]
      · show (okc c && (repC 59 [10] w).all okc) = true
        rw [i2]
        unfold okc
        rw [h1]
        rfl
/-- how many ( stand outside of texts; b: within a text -/
def og : Bool → List Nat → Nat
  | _, [] => 0
  | b, c :: r => if c = 39 then og (!b) r else (if c = 40 ∧ b = false then 1 else 0) + og b r
/-- within a text behind it? -/
def par : Bool → List Nat → Bool
  | b, [] => b
  | b, c :: r => if c = 39 then par (!b) r else par b r
theorem og_app : ∀ (a b : List Nat) (x : Bool), og x (a ++ b) = og x a + og (par x a) b
  | [], b, x => by simp [og, par]
  | c :: a, b, x => by
    show (if c = 39 then og (!x) (a ++ b) else _ + og x (a ++ b)) = (if c = 39 then og (!x) a else _ + og x a) + og (if c = 39 then par (!x) a else par x a) b
    by_cases h : c = 39
    · rw [if_pos h, if_pos h, if_pos h]
      exact og_app a b _
    · rw [if_neg h, if_neg h, if_neg h, og_app a b x]
      omega
theorem par_app : ∀ (a b : List Nat) (x : Bool), par x (a ++ b) = par (par x a) b
  | [], b, x => rfl
  | c :: a, b, x => by
    show (if c = 39 then par (!x) (a ++ b) else par x (a ++ b)) = par (if c = 39 then par (!x) a else par x a) b
    by_cases h : c = 39
    · rw [if_pos h, if_pos h]
      exact par_app a b _
    · rw [if_neg h, if_neg h]
      exact par_app a b _
def rowsT (R : List (List AV)) : Nat := (R.map tns).foldr (· + ·) 0
@[simp] theorem rowsT_cons (T : List AV) (R : List (List AV)) : rowsT (T :: R) = tns T + rowsT R := rfl
def isText (q : MS) : Bool := decide (q.m = .text)
/-- the state behind the signs s -/
structure Inv (q : MS) (s : List Nat) : Prop where
  ne : q.R ≠ []
  gd : ∀ T ∈ q.R, goods T = true
  bot : q.m ≠ .behind → q.R.getLast? = some []
  val : q.m = .value → s = pre q.R ∧ (1 < q.R.length → q.R.head? ≠ some [])
  opn : q.m = .opn → s = pre q.R ∧ q.R.head? = some [] ∧ 1 < q.R.length
  text : q.m = .text → s = pre q.R ++ 39 :: q.w ∧ q.w.all (fun c => sgn c || c == 59) = true
  leaf : q.m = .leaf → s = pre q.R ++ q.w ∧ lf q.w
  beh : q.m = .behind → ∃ T v R, q.R = (T ++ [v]) :: R ∧ s = pre (T :: R) ++ W v ∧ (T :: R).getLast? = some []
  par : par false s = isText q
  cnt : rowsT q.R + (q.R.length - 1) = og false s
theorem inv0 : Inv ⟨.value, [], [[]]⟩ [] := ⟨by simp, by simp [goods], fun _ => rfl, fun _ => ⟨rfl, fun h => by simp at h⟩, fun h => (nomatch h), fun h => (nomatch h), fun h => (nomatch h), fun h => (nomatch h), rfl, rfl⟩
theorem goods_push {v : AV} {R : List (List AV)} (hv : good v = true) (h : ∀ T ∈ R, goods T = true) : ∀ T ∈ push v R, goods T = true := by
  cases R with
  | nil => exact h
  | cons T R =>
    intro U hU
    rcases List.mem_cons.mp hU with rfl | hU
    · rw [goods_app, h T (by simp)]
      simp [goods, hv]
    · exact h U (List.mem_cons_of_mem _ hU)
theorem rowsT_push {v : AV} {R : List (List AV)} (h : R ≠ []) : rowsT (push v R) = rowsT R + tn v := by
  cases R with
  | nil => exact absurd rfl h
  | cons T R =>
    show tns (T ++ [v]) + rowsT R = tns T + rowsT R + tn v
    rw [tns_app]
    simp [tns]
    omega
/-- a value has been read -/
theorem inv_value {q : MS} {s s' : List Nat} {v : AV} {w : List Nat} (I : Inv q s) (hm : q.m ≠ .behind) (hv : good v = true) (e : s' = pre q.R ++ W v) (hp : Cd.par false s' = false) (hc : rowsT q.R + tn v + (q.R.length - 1) = og false s') : Inv ⟨.behind, w, push v q.R⟩ s' := by
  obtain ⟨T, R, hR⟩ : ∃ T R, q.R = T :: R := by
    cases h : q.R with
    | nil => exact absurd h I.ne
    | cons T R => exact ⟨T, R, rfl⟩
  refine ⟨by rw [hR]; simp [push], goods_push hv I.gd, fun h => absurd rfl h, fun h => (nomatch h), fun h => (nomatch h), fun h => (nomatch h), fun h => (nomatch h), fun _ => ⟨T, v, R, by rw [hR]; rfl, by rw [e, hR], by rw [← hR]; exact I.bot hm⟩, hp, ?_⟩
  rw [push_len, rowsT_push I.ne]
  exact hc
theorem shut_inv {R : List (List AV)} {w : List Nat} {s : List Nat} {c : Nat} {q' : MS} (I : Inv ⟨.behind, w, R⟩ s) (e : shut w R c = some q') : Inv q' (s ++ [c]) := by
  unfold shut at e
  split at e
  · rename_i hl
    obtain ⟨T, v, R', hR, hs, hb⟩ := I.beh rfl
    have hR : R = (T ++ [v]) :: R' := hR
    have hne : R' ≠ [] := fun z => by
      rw [hR, z] at hl
      simp at hl
    have hs2 : s = pre R' ++ 40 :: Ws (T ++ [v]) := by
      rw [hs, pre_cons hne, Ws_snoc]
      simp
    have hb2 : R'.getLast? = some [] := by
      cases R' with
      | nil => exact absurd rfl hne
      | cons a R' => simpa using hb
    have hp : Cd.par false s = false := I.par
    have hcnt : rowsT R + (R.length - 1) = og false s := I.cnt
    have hgd : ∀ U ∈ R, goods U = true := I.gd
    split at e
    · rename_i hc
      cases e
      subst hc
      refine ⟨by rw [hR]; simp, hgd, fun _ => ?_, fun _ => ⟨?_, fun _ => by rw [hR]; simp⟩, fun h => (nomatch h), fun h => (nomatch h), fun h => (nomatch h), fun h => (nomatch h), ?_, ?_⟩
      · show R.getLast? = some []
        rw [hR]
        cases R' with
        | nil => exact absurd rfl hne
        | cons a R' => simpa using hb2
      · show s ++ [32] = pre R
        rw [hR, pre_cons hne, hs2, sep_snoc, Ws_snoc]
        simp
      · rw [par_app, hp]
        rfl
      · show rowsT R + (R.length - 1) = _
        rw [og_app, hp, hcnt]
        rfl
    · split at e
      · rename_i hc
        cases e
        subst hc
        have hbehind : push (.tup (T ++ [v])) R' = popT R := by rw [hR]; rfl
        have hgT : good (.tup (T ++ [v])) = true := by
          have := hgd (T ++ [v]) (by rw [hR]; simp)
          unfold good
          exact this
        obtain ⟨U, R2, hR2⟩ : ∃ U R2, R' = U :: R2 := by
          cases h : R' with
          | nil => exact absurd h hne
          | cons U R2 => exact ⟨U, R2, rfl⟩
        refine ⟨by rw [← hbehind, hR2]; simp [push], by rw [← hbehind]; exact goods_push hgT fun X hX => hgd X (by rw [hR]; exact List.mem_cons_of_mem _ hX), fun h => absurd rfl h, fun h => (nomatch h), fun h => (nomatch h), fun h => (nomatch h), fun h => (nomatch h), fun _ => ⟨U, .tup (T ++ [v]), R2, by rw [← hbehind, hR2]; rfl, ?_, by rw [← hR2]; exact hb2⟩, ?_, ?_⟩
        · rw [← hR2, W, hs2]
          simp
        · rw [par_app, hp]
          rfl
        · show rowsT (popT R) + ((popT R).length - 1) = _
          rw [og_app, hp, ← hbehind, push_len, rowsT_push hne, ← hcnt, hR]
          have h0 : og false [41] = 0 := rfl
          have h1 : tn (.tup (T ++ [v])) = 1 + tns (T ++ [v]) := by rw [tn]
          have h2 : R'.length = R2.length + 1 := by rw [hR2]; rfl
          simp only [rowsT_cons, List.length_cons]
          rw [h0, h1, h2]
          omega
      · cases e
  · cases e
theorem isD_facts {c : Nat} (h : isD c = true) : c ≠ 39 ∧ c ≠ 40 := by
  rw [isD_iff] at h
  omega
theorem lf_quiet {w : List Nat} (h : lf w) : ∀ x, par x w = x ∧ og x w = 0 := by
  have key : ∀ (l : List Nat), (∀ c ∈ l, isD c = true) → ∀ x, par x l = x ∧ og x l = 0 := by
    intro l
    induction l with
    | nil => exact fun _ x => ⟨rfl, rfl⟩
    | cons c l ih =>
      intro hd x
      have hc := isD_facts (hd c (by simp))
      obtain ⟨i1, i2⟩ := ih (fun y hy => hd y (List.mem_cons_of_mem _ hy)) x
      refine ⟨?_, ?_⟩
      · show (if c = 39 then _ else par x l) = x
        rw [if_neg hc.1]
        exact i1
      · show (if c = 39 then _ else (if c = 40 ∧ x = false then 1 else 0) + og x l) = 0
        rw [if_neg hc.1, if_neg fun z => hc.2 z.1, i2]
  have cd : ∀ l, canon l → ∀ c ∈ l, isD c = true := fun l h => (digs_iff.mp (canon_digs h)).2
  rcases h with rfl | ⟨hc, _⟩ | ⟨ds, rfl, hc, _, _⟩
  · exact fun x => ⟨rfl, by simp [og]⟩
  · exact key w (cd w hc)
  · intro x
    obtain ⟨i1, i2⟩ := key ds (cd ds hc) x
    exact ⟨i1, by show (if (45 : Nat) = 39 then _ else (if (45 : Nat) = 40 ∧ x = false then 1 else 0) + og x ds) = 0; rw [if_neg (by decide), if_neg (by simp), i2]⟩
theorem enter_inv {q : MS} {s : List Nat} {c : Nat} (I : Inv q s) (b : Beg q) (ho : opens c = true) : Inv (enter q.R c) (s ++ [c]) := by
  have hs : s = pre q.R := by
    rcases b with b | b
    · exact (I.val b).1
    · exact (I.opn b).1
  have hnb : q.m ≠ .behind := by rcases b with b | b <;> rw [b] <;> simp
  have hp : Cd.par false s = false := by
    rw [I.par]
    unfold isText
    rcases b with b | b <;> rw [b] <;> rfl
  have hbot := I.bot hnb
  unfold enter
  by_cases h40 : c = 40
  · subst h40
    rw [if_pos rfl]
    refine ⟨by simp, fun T hT => ?_, fun _ => ?_, fun h => (nomatch h), fun _ => ⟨?_, rfl, ?_⟩, fun h => (nomatch h), fun h => (nomatch h), fun h => (nomatch h), ?_, ?_⟩
    · rcases List.mem_cons.mp hT with rfl | hT
      · rfl
      · exact I.gd T hT
    · show ([] :: q.R).getLast? = some []
      cases hq : q.R with
      | nil => exact absurd hq I.ne
      | cons a R =>
        rw [hq] at hbot
        simpa using hbot
    · rw [pre_cons I.ne, hs]
      rfl
    · have := List.length_pos_iff.mpr I.ne
      simp only [List.length_cons]
      omega
    · rw [par_app, hp]
      rfl
    · rw [og_app, hp, ← I.cnt]
      have := List.length_pos_iff.mpr I.ne
      have h1 : og false [40] = 1 := rfl
      simp only [rowsT_cons, List.length_cons, tns, h1]
      omega
  · rw [if_neg h40]
    by_cases h39 : c = 39
    · subst h39
      rw [if_pos rfl]
      refine ⟨I.ne, I.gd, fun _ => hbot, fun h => (nomatch h), fun h => (nomatch h), fun _ => ⟨by rw [hs], rfl⟩, fun h => (nomatch h), fun h => (nomatch h), ?_, ?_⟩
      · rw [par_app, hp]
        rfl
      · rw [og_app, hp, ← I.cnt]
        rfl
    · rw [if_neg h39]
      have hl : lf [c] := by
        unfold opens at ho
        simp only [Bool.or_eq_true, beq_iff_eq] at ho
        rcases ho with ((ho | ho) | ho) | ho
        · exact absurd ho h40
        · exact absurd ho h39
        · exact .inl (by rw [ho])
        · refine .inr (.inl ⟨?_, by simp⟩)
          by_cases h0 : c = 48
          · exact .inl (by rw [h0])
          · exact .inr ⟨⟨c, [], rfl, h0⟩, by simpa using ho⟩
      obtain ⟨l1, l2⟩ := lf_quiet hl false
      refine ⟨I.ne, I.gd, fun _ => hbot, fun h => (nomatch h), fun h => (nomatch h), fun h => (nomatch h), fun _ => ⟨by rw [hs], hl⟩, fun h => (nomatch h), ?_, ?_⟩
      · rw [par_app, hp, l1]
        rfl
      · rw [og_app, hp, l2, ← I.cnt]
        rfl
theorem leaf_behind {q : MS} {s : List Nat} (I : Inv q s) (hm : q.m = .leaf) : Inv ⟨.behind, q.w, push (leafV q.w) q.R⟩ s := by
  obtain ⟨h1, h2⟩ := I.leaf hm
  obtain ⟨w1, w2, w3⟩ := lf_val h2
  refine inv_value I (by rw [hm]; simp) w2 (by rw [h1, w1]) ?_ ?_
  · rw [I.par]
    unfold isText
    rw [hm]
    rfl
  · rw [w3, ← I.cnt]
    rfl
theorem step_inv {q q' : MS} {s : List Nat} {c : Nat} (I : Inv q s) (e : step q c = some q') : Inv q' (s ++ [c]) := by
  unfold step at e
  cases hm : q.m with
  | text =>
    rw [hm] at e
    dsimp only at e
    obtain ⟨h1, h2⟩ := I.text hm
    have hp : Cd.par false s = true := by
      rw [I.par]
      unfold isText
      rw [hm]
      rfl
    split at e
    · rename_i hc
      cases e
      subst hc
      obtain ⟨u1, u2⟩ := unsemi_back h2
      refine inv_value I (by rw [hm]; simp) (by unfold good; exact u2) ?_ ?_ ?_
      · rw [W, u1, h1]
        simp
      · rw [par_app, hp]
        rfl
      · rw [og_app, hp, ← I.cnt]
        have : tn (.str (repC 59 [10] q.w)) = 0 := rfl
        rw [this]
        rfl
    · split at e
      · rename_i h39 hc
        cases e
        refine ⟨I.ne, I.gd, fun _ => I.bot (by rw [hm]; simp), fun h => (nomatch h), fun h => (nomatch h), fun _ => ⟨by rw [h1]; simp, ?_⟩, fun h => (nomatch h), fun h => (nomatch h), ?_, ?_⟩
        · show (q.w ++ [c]).all _ = true
          rw [List.all_append, h2]
          simp
          simpa using hc
        · rw [par_app, hp]
          show (if c = 39 then _ else true) = true
          rw [if_neg h39]
        · rw [og_app, hp, ← I.cnt]
          show _ = _ + (if c = 39 then _ else (if c = 40 ∧ true = false then 1 else 0) + 0)
          rw [if_neg h39, if_neg (by simp)]
          rfl
      · cases e
  | leaf =>
    rw [hm] at e
    dsimp only at e
    obtain ⟨h1, h2⟩ := I.leaf hm
    have hp : Cd.par false s = false := by
      rw [I.par]
      unfold isText
      rw [hm]
      rfl
    split at e
    · rename_i hg
      cases e
      have h3 := lf_go h2 hg
      have hD : isD c = true := by
        unfold goesOn at hg
        rw [Bool.and_eq_true, Bool.and_eq_true] at hg
        exact hg.1.1
      have hcf := isD_facts hD
      refine ⟨I.ne, I.gd, fun _ => I.bot (by rw [hm]; simp), fun h => (nomatch h), fun h => (nomatch h), fun h => (nomatch h), fun _ => ⟨by rw [h1]; simp, h3⟩, fun h => (nomatch h), ?_, ?_⟩
      · rw [par_app, hp]
        show (if c = 39 then _ else false) = false
        rw [if_neg hcf.1]
      · rw [og_app, hp, ← I.cnt]
        show _ = _ + (if c = 39 then _ else (if c = 40 ∧ false = false then 1 else 0) + 0)
        rw [if_neg hcf.1, if_neg fun z => hcf.2 z.1]
        rfl
    · exact shut_inv (leaf_behind I hm) e
  | value =>
    rw [hm] at e
    dsimp only at e
    split at e
    · rename_i ho
      cases e
      exact enter_inv I (.inl hm) ho
    · cases e
  | opn =>
    rw [hm] at e
    dsimp only at e
    split at e
    · rename_i ho
      cases e
      exact enter_inv I (.inr hm) ho
    · split at e
      · rename_i hc
        cases e
        subst hc
        obtain ⟨h1, h2, h3⟩ := I.opn hm
        have hbot := I.bot (by rw [hm]; simp)
        have hp : Cd.par false s = false := by
          rw [I.par]
          unfold isText
          rw [hm]
          rfl
        have hcnt := I.cnt
        obtain ⟨R', hR⟩ : ∃ R', q.R = [] :: R' := by
          cases hq : q.R with
          | nil => exact absurd hq I.ne
          | cons T R' =>
            rw [hq] at h2
            simp at h2
            exact ⟨R', by rw [h2]⟩
        have hne : R' ≠ [] := fun z => by
          rw [hR, z] at h3
          simp at h3
        obtain ⟨U, R2, hR2⟩ : ∃ U R2, R' = U :: R2 := by
          cases h : R' with
          | nil => exact absurd h hne
          | cons U R2 => exact ⟨U, R2, rfl⟩
        have hpop : popT q.R = push (.tup []) R' := by rw [hR]; rfl
        have hb2 : R'.getLast? = some [] := by
          rw [hR, hR2] at hbot
          rw [hR2]
          simpa using hbot
        rw [hpop]
        refine ⟨by rw [hR2]; simp [push], goods_push rfl fun X hX => I.gd X (by rw [hR]; exact List.mem_cons_of_mem _ hX), fun h => absurd rfl h, fun h => (nomatch h), fun h => (nomatch h), fun h => (nomatch h), fun h => (nomatch h), fun _ => ⟨U, .tup [], R2, by rw [hR2]; rfl, ?_, by rw [← hR2]; exact hb2⟩, ?_, ?_⟩
        · rw [← hR2, W, h1, hR, pre_cons hne]
          simp [sep, Ws]
        · rw [par_app, hp]
          rfl
        · show rowsT (push (.tup []) R') + ((push (.tup []) R').length - 1) = _
          rw [og_app, hp, push_len, rowsT_push hne, ← hcnt, hR]
          have h0 : og false [41] = 0 := rfl
          have h1 : tn (.tup []) = 1 := rfl
          have h2 : R'.length = R2.length + 1 := by rw [hR2]; rfl
          simp only [rowsT_cons, List.length_cons, tns]
          rw [h0, h1, h2]
          omega
      · cases e
  | behind =>
    rw [hm] at e
    dsimp only at e
    have : q = ⟨.behind, q.w, q.R⟩ := by
      cases q
      cases hm
      rfl
    rw [this] at I
    exact shut_inv I e
theorem mrun_inv : ∀ (r : List Nat) (q : MS) (s : List Nat) (n : Nat) (v : AV), Inv q s → mrun q n r = .inr v → ∃ q', Inv q' (s ++ r) ∧ q'.m ≠ .text ∧ q'.m ≠ .value ∧ q'.R.length ≤ 1 ∧ v = bottom (if q'.m = .leaf then push (leafV q'.w) q'.R else q'.R)
  | [], q, s, n, v, I, e => by
    have e : fin q n = .inr v := e
    unfold fin at e
    split at e
    · cases e
    · rename_i h
      cases e
      refine ⟨q, by rw [List.append_nil]; exact I, fun z => h (.inr (.inr z)), fun z => h (.inr (.inl z)), ?_, rfl⟩
      have : ¬ 1 < q.R.length := fun z => h (.inl z)
      omega
  | c :: r, q, s, n, v, I, e => by
    have e : (match step q c with | some q' => mrun q' (n + 1) r | none => .inl n) = Sum.inr v := e
    cases hs : step q c with
    | none => rw [hs] at e; cases e
    | some q1 =>
      rw [hs] at e
      obtain ⟨q', I', rest⟩ := mrun_inv r q1 (s ++ [c]) (n + 1) v (step_inv I hs) e
      exact ⟨q', by rw [List.append_assoc] at I'; exact I', rest⟩
/-- what the machine tells of a text that it takes -/
theorem P_sound {s : List Nat} {v : AV} (h : P s = .inr v) : W v = s ∧ good v = true ∧ tn v = og false s ∧ par false s = false := by
  obtain ⟨q, I, h1, h2, h3, h4⟩ := mrun_inv s _ [] 0 v inv0 h
  rw [List.nil_append] at I
  have key : ∀ (w : List Nat) (R : List (List AV)), Inv ⟨.behind, w, R⟩ s → R.length ≤ 1 → W (bottom R) = s ∧ good (bottom R) = true ∧ tn (bottom R) = og false s := by
    intro w R J hl
    obtain ⟨T, u, R', hR, hs, hb⟩ := J.beh rfl
    have hR : R = (T ++ [u]) :: R' := hR
    have hR' : R' = [] := by
      rw [hR] at hl
      simp at hl
      exact hl
    subst hR'
    have hT : T = [] := by simpa using hb
    subst hT
    have hcnt := J.cnt
    have hgd := J.gd [u] (by rw [hR]; simp)
    simp only [goods, Bool.and_true] at hgd
    rw [hR] at hcnt ⊢
    refine ⟨?_, hgd, ?_⟩
    · show W u = s
      rw [hs]
      rfl
    · show tn u = _
      rw [← hcnt]
      show tn u = tns ([] ++ [u]) + rowsT [] + 0
      simp [tns, rowsT]
  have hp : Cd.par false s = false := by
    rw [I.par]
    unfold isText
    exact decide_eq_false h1
  cases hm : q.m with
  | text => exact absurd hm h1
  | value => exact absurd hm h2
  | opn =>
    have := (I.opn hm).2.2
    omega
  | leaf =>
    have J := leaf_behind I hm
    rw [hm] at h4
    simp only [if_true] at h4
    obtain ⟨k1, k2, k3⟩ := key _ _ J (by rw [push_len]; exact h3)
    rw [h4]
    exact ⟨k1, k2, k3, hp⟩
  | behind =>
    rw [hm] at h4
    simp only [reduceCtorEq, if_false] at h4
    have : q = ⟨.behind, q.w, q.R⟩ := by
      cases q
      cases hm
      rfl
    rw [this] at I
    obtain ⟨k1, k2, k3⟩ := key _ _ I h3
    rw [h4]
    exact ⟨k1, k2, k3, hp⟩
end Cd

end

section
set_option maxHeartbeats 4000000
namespace Lk94
open Mi MiL Cd
/-! ### the law's own reader -/
def lawSigns : List Nat := [32, 33, 34, 35, 36, 38, 40, 41, 42, 43, 44, 45, 46, 47, 48, 49, 50, 51, 52, 53, 54, 55, 56, 57, 58, 60, 61, 62, 63, 64, 65, 66, 67, 68, 69, 70, 71, 72, 73, 74, 75, 76, 77, 78, 79, 80, 81, 82, 83, 84, 85, 86, 87, 88, 89, 90, 91, 92, 93, 94, 95, 96, 97, 98, 99, 100, 101, 102, 103, 104, 105, 106, 107, 108, 109, 110, 111, 112, 113, 114, 115, 116, 117, 118, 119, 120, 121, 122, 123, 124, 125, 126]
theorem signs_ok (h : AH) : m__law_signs [] h = .ok (.str lawSigns) h := rfl
theorem mem_signs {c : Nat} : c ∈ lawSigns ↔ sgn c = true := by
  constructor
  · intro h
    have : ∀ c ∈ lawSigns, sgn c = true := by decide
    exact this c h
  · intro h
    have h2 := sgn_iff.mp h
    have : ∀ c, c < 127 → sgn c = true → c ∈ lawSigns := by decide
    exact this c (by omega) h
def SG : List Nat := lawSigns ++ [59]
theorem mem_signs2 {c : Nat} : c ∈ SG ↔ (sgn c || c == 59) = true := by
  unfold SG
  rw [List.mem_append, mem_signs]
  simp
theorem figs_mem {c : Nat} : c ∈ [48, 49, 50, 51, 52, 53, 54, 55, 56, 57] ↔ isD c = true := by
  rw [isD_iff]
  simp only [List.mem_cons, List.mem_nil_iff, or_false]
  omega
theorem opens_mem {c : Nat} : c ∈ [40, 39, 45, 48, 49, 50, 51, 52, 53, 54, 55, 56, 57] ↔ opens c = true := by
  unfold opens
  simp only [List.mem_cons, List.mem_nil_iff, or_false, Bool.or_eq_true, beq_iff_eq, isD_iff]
  omega
theorem goes_ok {w : List Nat} {c : Nat} (hw : lf w) (hl : w.length ≤ 1000) (h : AH) : m__law_goes_on [.str w, .str [c]] h = .ok (.bl (goesOn w c)) h := by
  have hf : (c ∈ [48, 49, 50, 51, 52, 53, 54, 55, 56, 57]) = (isD c = true) := propext figs_mem
  have hne : w ≠ [] := by
    rcases hw with rfl | ⟨hc, _⟩ | ⟨ds, rfl, _⟩
    · simp
    · exact (canon_ne hc).2.1
    · simp
  obtain ⟨a, r, rfl⟩ : ∃ a r, w = a :: r := by
    cases w with
    | nil => exact absurd rfl hne
    | cons a r => exact ⟨a, r, rfl⟩
  have hl2 : r.length + 1 ≤ 16777216 := by simp only [List.length_cons] at hl; omega
  by_cases hD : isD c = true
  · by_cases h48 : (a :: r) = [48]
    · rw [h48]
      simp [m__law_goes_on, start, goesOn]
    · by_cases h45 : (a :: r) = [45]
      · rw [h45]
        simp [m__law_goes_on, start, goesOn, hf, hD]
      · have e1 : ((a :: r) == [48]) = false := by simpa using h48
        have e2 : ((a :: r) == [45]) = false := by simpa using h45
        have e3 : ([a] == [45]) = ((a :: r).head? == some 45) := by simp
        have hg : goesOn (a :: r) c = decide ((((a :: r).length : Nat) : Int) - b2i ((a :: r).head? == some 45) < 30) := by
          unfold goesOn
          rw [hD, e1, if_neg h45]
          simp
        rw [hg]
        unfold m__law_goes_on
        refine def_rt rfl ?_
        show sSeq _ _ [some (.str (a :: r)), some (.str [c])] _ = _
        rw [seq_nx (if_no (h1 := h) (by simp [hf, hD]; simpa using h48))]
        rw [seq_nx (if_no (h1 := h) (by simp; simpa using h45))]
        refine ret_ok ?_
        simp [hl2]
        try rfl
  · have hD : isD c = false := by simpa using hD
    simp [m__law_goes_on, start, goesOn, hf, hD]
theorem leafof_ok {w : List Nat} (hw : lf w) (hl : w.length ≤ 600) (h : AH) : m__law_leaf_of [.str w] h = .ok (leafV w) h := by
  by_cases h45 : w = [45]
  · rw [h45]
    rfl
  · have e2 : (w == [45]) = false := by simpa using h45
    have hi : ∃ i, intOf w = some i := by
      rcases hw with hw | ⟨hc, _⟩ | ⟨ds, rfl, hc, _⟩
      · exact absurd hw h45
      · exact ⟨_, intOf_num (canon_digs hc)⟩
      · exact ⟨_, intOf_neg (canon_digs hc)⟩
    obtain ⟨i, hi⟩ := hi
    have hv : leafV w = .int i := by
      unfold leafV
      rw [if_neg h45, hi]
    rw [hv]
    have hl2 : w.length ≤ 640 := by omega
    refine def_rt rfl ?_
    show sSeq _ _ [some (.str w)] _ = _
    rw [seq_nx (if_no (h1 := h) (by simp [h45]))]
    exact ret_ok (by simp [hl2, hi])
def mdS : Md → List Nat
  | .value => [118, 97, 108, 117, 101]
  | .opn => [111, 112, 101, 110]
  | .text => [116, 101, 120, 116]
  | .leaf => [108, 101, 97, 102]
  | .behind => [98, 101, 104, 105, 110, 100]
theorem rows_len {q : MS} {s : List Nat} (I : Inv q s) : q.R.length ≤ s.length + 1 := by
  have h1 := I.cnt
  have h2 : ∀ (s : List Nat) (b : Bool), og b s ≤ s.length := by
    intro s
    induction s with
    | nil => intro b; exact Nat.le_refl _
    | cons c s ih =>
      intro b
      show (if c = 39 then og (!b) s else (if c = 40 ∧ b = false then 1 else 0) + og b s) ≤ _
      have h1 := ih b
      have h2 := ih (!b)
      simp only [List.length_cons]
      split
      · omega
      · split <;> omega
  have := h2 s false
  omega
theorem top_len {q : MS} {s : List Nat} (I : Inv q s) {T : List AV} {R : List (List AV)} (h : q.R = T :: R) : True := trivial
/-- the state of the reader's loop -/
def SR (s : List Nat) (n0 : Nat) (r : Nat) (q : MS) (o5 o6 o7 : Option AV) : AS := [some (.str s), some (.str SG), some (.cel (n0 + r)), some (.str q.w), some (.str (mdS q.m)), o5, o6, o7]
/-- no row is too long -/
def Few (k : Nat) (R : List (List AV)) : Prop := ∀ T ∈ R, T.length ≤ k
theorem few_push {k : Nat} {v : AV} {R : List (List AV)} (h : Few k R) : Few (k + 1) (push v R) := by
  cases R with
  | nil => intro T hT; cases hT
  | cons T R =>
    intro U hU
    rcases List.mem_cons.mp hU with rfl | hU
    · have := h T (by simp)
      simp
      omega
    · have := h U (List.mem_cons_of_mem _ hU)
      omega
theorem Few.mono {k m : Nat} {R : List (List AV)} (h : Few k R) (hk : k ≤ m) : Few m R := fun T hT => Nat.le_trans (h T hT) hk
theorem few_step {k : Nat} {q q' : MS} {c : Nat} (h : Few k q.R) (e : step q c = some q') : Few (k + 2) q'.R := by
  have shutF : ∀ {R : List (List AV)} {w : List Nat} {j : Nat}, Few j R → shut w R c = some q' → Few (j + 1) q'.R := by
    intro R w j hR e
    unfold shut at e
    split at e
    · split at e
      · cases e
        exact hR.mono (by omega)
      · split at e
        · cases e
          show Few (j + 1) (popT R)
          cases R with
          | nil => intro T hT; cases hT
          | cons T R => exact few_push fun U hU => hR U (List.mem_cons_of_mem _ hU)
        · cases e
    · cases e
  have entF : Few (k + 2) (enter q.R c).R := by
    unfold enter
    split
    · intro T hT
      rcases List.mem_cons.mp hT with rfl | hT
      · simp
      · have := h T hT
        omega
    · split <;> exact h.mono (by omega)
  unfold step at e
  split at e
  · split at e
    · cases e
      exact (few_push h).mono (by omega)
    · split at e
      · cases e
        exact h.mono (by omega)
      · cases e
  · split at e
    · cases e
      exact h.mono (by omega)
    · exact (shutF (few_push h) e).mono (by omega)
  · split at e
    · cases e
      exact entF
    · cases e
  · split at e
    · cases e
      exact entF
    · split at e
      · cases e
        show Few (k + 2) (popT q.R)
        cases hR : q.R with
        | nil => intro T hT; cases hT
        | cons T R =>
          rw [hR] at h
          exact (few_push fun U hU => h U (List.mem_cons_of_mem _ hU)).mono (by omega)
      · cases e
  · exact (shutF h e).mono (by omega)
theorem md_eq (m m' : Md) : (mdS m == mdS m') = decide (m = m') := by cases m <;> cases m' <;> rfl
theorem SR_w {s : List Nat} {n0 r : Nat} {q : MS} {o5 o6 o7 : Option AV} {w : List Nat} : (SR s n0 r q o5 o6 o7).set 3 (some (.str w)) = SR s n0 r ⟨q.m, w, q.R⟩ o5 o6 o7 := rfl
theorem SR_m {s : List Nat} {n0 r : Nat} {q : MS} {o5 o6 o7 : Option AV} {m : Md} : (SR s n0 r q o5 o6 o7).set 4 (some (.str (mdS m))) = SR s n0 r ⟨m, q.w, q.R⟩ o5 o6 o7 := rfl
theorem in_lb (m : Md) (h : AH) : oIn (.str (mdS m)) (.lst [.str [108, 101, 97, 102], .str [98, 101, 104, 105, 110, 100]]) h = .ok (.bl (decide (m = .leaf) || decide (m = .behind))) h := by cases m <;> rfl
theorem read_step {s s1 : List Nat} {h0 u : AH} {r k at_ : Nat} {q : MS} {c : Nat} {o6 o7 : Option AV} (I : Inv q s1) (hF : Few k q.R) (hk : k < 1000000) (hs : s[at_]? = some c) (hl : s.length ≤ 100000) (h1 : s1.length < s.length) (hw : q.w.length ≤ 200000) (S : Stk h0.length u r q.R) :
    match step q c with
    | some q' => ∃ u' o7', s__law_read_0 (SR s h0.length r q (some (.int at_)) o6 o7) (h0 ++ u) = .nx (SR s h0.length r q' (some (.int at_)) (some (.str [c])) o7') (h0 ++ u') ∧ Stk h0.length u' r q'.R
    | none => s__law_read_0 (SR s h0.length r q (some (.int at_)) o6 o7) (h0 ++ u) = .rt (.tup [.str [98, 97, 100], .int at_]) (h0 ++ u) := by
  have hlen : s.length ≤ 16777216 := by omega
  have hrl := rows_len I
  obtain ⟨m, w, R0⟩ := q
  dsimp only at hF hw S hrl
  have hwl : w.length + 1 ≤ 16777216 := by omega
  have hwl2 : w.length + (w.length + 1) ≤ 16777216 := by omega
  obtain ⟨T, R, rfl⟩ : ∃ T R, R0 = T :: R := by
    cases hq : R0 with
    | nil => exact absurd hq I.ne
    | cons T R => exact ⟨T, R, rfl⟩
  have hT : T.length < 16777216 := by
    have := hF T (by simp)
    omega
  have first : s__law_read_0 (SR s h0.length r ⟨m, w, T :: R⟩ (some (.int at_)) o6 o7) (h0 ++ u) = _ := seq_nx (s := sAsg (eOp2 oIx (eVar 0) (eVar 5)) (gNm 6)) (σ1 := SR s h0.length r ⟨m, w, T :: R⟩ (some (.int at_)) (some (.str [c])) o7) (h1 := h0 ++ u) (by simp [SR, hlen, atI_nat, hs])
  rw [first]
  clear first
  have mS := mem_signs2 (c := c)
  have mO := opens_mem (c := c)
  have lenC := S.len
  -- the end of a value
  have shutS : ∀ (R' : List (List AV)) (u1 : AH) (m1 : Md), Stk h0.length u1 r R' → 1 < R'.length → (c = 32 ∨ c = 41) → Few (k + 1) R' →
      ∃ u' o7' q', shut w R' c = some q' ∧ sSeq (sAsg (eC (.str [118, 97, 108, 117, 101])) (gNm 4)) (sIf (tB (eOp2 oEq (eVar 6) (eC (.str [41])))) (sSeq (sAsg (eCall cTuple (aCons (eOp1 mPop (eVar 2)) (aNil))) (gNm 7)) (sSeq (sDrop (eM1 "list" mAppend (eOp2 oIx (eVar 2) (eOp1 oNeg (eC (.int 1)))) (eVar 7))) (sAsg (eC (.str [98, 101, 104, 105, 110, 100])) (gNm 4)))) (sNx))
        (SR s h0.length r ⟨m1, w, R'⟩ (some (.int at_)) (some (.str [c])) o7) (h0 ++ u1) = .nx (SR s h0.length r q' (some (.int at_)) (some (.str [c])) o7') (h0 ++ u') ∧ Stk h0.length u' r q'.R := by
    intro R' u1 m1 S1 hl1 hc hF1
    unfold shut
    rw [if_pos hl1]
    rw [seq_nx (σ1 := SR s h0.length r ⟨.value, w, R'⟩ (some (.int at_)) (some (.str [c])) o7) (h1 := h0 ++ u1) (by simp [SR, mdS])]
    rcases hc with rfl | rfl
    · refine ⟨u1, o7, ⟨.value, w, R'⟩, if_pos rfl, ?_, S1⟩
      exact if_no (by simp [SR])
    · obtain ⟨T1, R1, rfl⟩ : ∃ T1 R1, R' = T1 :: R1 := by
        cases hq : R' with
        | nil => rw [hq] at hl1; simp at hl1
        | cons T R => exact ⟨T, R, rfl⟩
      obtain ⟨T2, R2, rfl⟩ : ∃ T2 R2, R1 = T2 :: R2 := by
        cases hq : R1 with
        | nil => rw [hq] at hl1; simp at hl1
        | cons T R => exact ⟨T, R, rfl⟩
      have hT2 : T2.length < 16777216 := by
        have := hF1 T2 (by simp)
        omega
      obtain ⟨u2, e2, S2⟩ := pop_tup S1 (σ := SR s h0.length r ⟨.value, w, T1 :: T2 :: R2⟩ (some (.int at_)) (some (.str [41])) o7) (i := 2) rfl
      obtain ⟨u3, e3, S3⟩ := app_top S2 (σ := SR s h0.length r ⟨.value, w, T1 :: T2 :: R2⟩ (some (.int at_)) (some (.str [41])) (some (.tup T1))) (i := 2) (e := eVar 7) (v := .tup T1) rfl rfl hT2
      refine ⟨u3, some (.tup T1), ⟨.behind, w, popT (T1 :: T2 :: R2)⟩, by rw [if_neg (by decide), if_pos rfl], ?_, S3⟩
      rw [if_t (h1 := h0 ++ u1) (by simp [SR])]
      rw [seq_nx (σ1 := SR s h0.length r ⟨.value, w, T1 :: T2 :: R2⟩ (some (.int at_)) (some (.str [41])) (some (.tup T1))) (h1 := h0 ++ u2) (by rw [z_sAsg, e2]; rfl)]
      rw [seq_nx e3]
      rfl
  have hRl : 1 < (T :: R).length ↔ 1 < R.length + 1 := Iff.rfl
  -- where no value may end
  have noShut : ∀ (v : AV), ¬ (1 < (T :: R).length ∧ (c = 32 ∨ c = 41)) → shut w (push v (T :: R)) c = none ∧ shut w (T :: R) c = none := by
    intro v hn
    have key : ∀ R' : List (List AV), R'.length = (T :: R).length → shut w R' c = none := by
      intro R' hR'
      unfold shut
      by_cases h1 : 1 < R'.length
      · rw [if_pos h1, if_neg fun z => hn ⟨by omega, .inl z⟩, if_neg fun z => hn ⟨by omega, .inr z⟩]
      · rw [if_neg h1]
    exact ⟨key _ (push_len _ _), key _ rfl⟩
  have in1 := in_lb m (h0 ++ u)
  have lenC2 : (1 : Int) < (R.length : Int) + 1 ↔ 0 < R.length := by omega
  -- a value begins
  have enterS : ∀ (m1 : Md), opens c = true → ∃ u', sSeq (sAsg (eC (.str [])) (gNm 3)) (sIf (tB (eOp2 oEq (eVar 6) (eC (.str [40])))) (sSeq (sDrop (eM1 "list" mAppend (eVar 2) (eLstC (aNil)))) (sAsg (eC (.str [111, 112, 101, 110])) (gNm 4))) (sIf (tB (eOp2 oEq (eVar 6) (eC (.str [39])))) (sAsg (eC (.str [116, 101, 120, 116])) (gNm 4)) (sSeq (sAsg (eVar 6) (gNm 3)) (sAsg (eC (.str [108, 101, 97, 102])) (gNm 4)))))
      (SR s h0.length r ⟨m1, w, T :: R⟩ (some (.int at_)) (some (.str [c])) o7) (h0 ++ u) = .nx (SR s h0.length r (enter (T :: R) c) (some (.int at_)) (some (.str [c])) o7) (h0 ++ u') ∧ Stk h0.length u' r (enter (T :: R) c).R := by
    intro m1 ho
    have first : ∀ t, sSeq (sAsg (eC (.str [])) (gNm 3)) t (SR s h0.length r ⟨m1, w, T :: R⟩ (some (.int at_)) (some (.str [c])) o7) (h0 ++ u) = t (SR s h0.length r ⟨m1, [], T :: R⟩ (some (.int at_)) (some (.str [c])) o7) (h0 ++ u) := fun t => seq_nx (by simp [SR])
    rw [first]
    unfold enter
    by_cases h40 : c = 40
    · subst h40
      rw [if_pos rfl]
      obtain ⟨u1, e1, S1⟩ := push_new S (σ := SR s h0.length r ⟨m1, [], T :: R⟩ (some (.int at_)) (some (.str [40])) o7) (i := 2) rfl (by omega)
      refine ⟨u1, ?_, S1⟩
      rw [if_t (h1 := h0 ++ u) (by simp [SR])]
      rw [seq_nx e1]
      rfl
    · rw [if_neg h40]
      rw [if_f (h1 := h0 ++ u) (by simp [SR, h40])]
      by_cases h39 : c = 39
      · subst h39
        rw [if_pos rfl]
        refine ⟨u, ?_, S⟩
        rw [if_t (h1 := h0 ++ u) (by simp [SR])]
        rfl
      · rw [if_neg h39]
        refine ⟨u, ?_, S⟩
        rw [if_f (h1 := h0 ++ u) (by simp [SR, h39])]
        simp [SR, mdS]
  have in2 : (c ∈ [32, 41]) = (c = 32 ∨ c = 41) := by simp
  cases m with
  | text =>
    unfold step
    dsimp only
    by_cases h39 : c = 39
    · subst h39
      rw [if_pos rfl]
      obtain ⟨u1, e1, S1⟩ := app_top S (σ := SR s h0.length r ⟨.text, w, T :: R⟩ (some (.int at_)) (some (.str [39])) o7) (i := 2) (e := eOp1 (mRepl 59 [10]) (eVar 3)) (v := .str (repC 59 [10] w)) rfl (by simp [SR]; omega) hT
      refine ⟨u1, o7, ?_, S1⟩
      rw [if_t (h1 := h0 ++ u) (by simp [SR, mdS])]
      rw [seq_nx e1]
      rfl
    · rw [if_neg h39]
      by_cases hc : (sgn c || c == 59) = true
      · rw [if_pos hc]
        refine ⟨u, o7, ?_, S⟩
        have hin : c ∈ SG := mS.mpr hc
        rw [if_f (h1 := h0 ++ u) (by simp [SR, mdS, h39])]
        rw [if_t (h1 := h0 ++ u) (by simp [SR, mdS, hin])]
        simp [SR, hwl]
      · rw [if_neg hc]
        have hin : ¬ c ∈ SG := fun z => hc (mS.mp z)
        dsimp only
        rw [if_f (h1 := h0 ++ u) (by simp [SR, mdS, h39])]
        rw [if_f (h1 := h0 ++ u) (by simp [SR, mdS, hin])]
        rw [if_f (h1 := h0 ++ u) (by simp [SR, mdS])]
        rw [if_f (h1 := h0 ++ u) (by simp [SR, mdS] at in1 ⊢; simp [in1])]
        exact ret_ok (by simp [SR])
  | leaf =>
    obtain ⟨_, hlf⟩ := I.leaf rfl
    dsimp only at hlf
    have hwl3 : w.length ≤ 31 := by
      rcases hlf with rfl | ⟨_, h⟩ | ⟨ds, rfl, _, _, h⟩
      · decide
      · omega
      · simp; omega
    have eg := goes_ok (c := c) hlf (by omega) (h0 ++ u)
    have el := leafof_ok hlf (by omega) (h0 ++ u)
    unfold step
    dsimp only
    by_cases hg : goesOn w c = true
    · rw [if_pos hg]
      rw [hg] at eg
      refine ⟨u, o7, ?_, S⟩
      rw [if_f (h1 := h0 ++ u) (by simp [SR, mdS])]
      rw [if_t (h1 := h0 ++ u) (by simp [SR, mdS, eg])]
      simp [SR, hwl]
    · rw [if_neg hg]
      have hg : goesOn w c = false := by simpa using hg
      rw [hg] at eg
      by_cases hsh : 1 < (T :: R).length ∧ (c = 32 ∨ c = 41)
      · obtain ⟨hsh1, hsh2⟩ := hsh
        obtain ⟨u1, e1, S1⟩ := app_top S (σ := SR s h0.length r ⟨.leaf, w, T :: R⟩ (some (.int at_)) (some (.str [c])) o7) (i := 2) (e := eCall m__law_leaf_of (aCons (eVar 3) (aNil))) (v := leafV w) rfl (by simp [SR, el]) hT
        obtain ⟨u2, o7', q', e2, e3, S2⟩ := shutS ((T ++ [leafV w]) :: R) u1 .leaf S1 hsh1 hsh2 (few_push (v := leafV w) hF)
        rw [show push (leafV w) (T :: R) = (T ++ [leafV w]) :: R from rfl, e2]
        dsimp only
        refine ⟨u2, o7', ?_, S2⟩
        have hRl2 : 0 < R.length := by simpa using hsh1
        have hRl3 : (1 : Int) < (((T :: R).length : Nat) : Int) := by omega
        rw [if_f (h1 := h0 ++ u) (by simp [SR, mdS])]
        rw [if_f (h1 := h0 ++ u) (by simp [SR, mdS, eg])]
        rw [if_f (h1 := h0 ++ u) (by simp [SR, mdS])]
        rw [if_t (h1 := h0 ++ u) (by
          rcases hsh2 with rfl | rfl <;> simp [SR, mdS] at in1 <;> simp [-z_lenC, SR, mdS, in1, lenC, lenC2, hRl2])]
        rw [seq_nx (σ1 := SR s h0.length r ⟨.leaf, w, (T ++ [leafV w]) :: R⟩ (some (.int at_)) (some (.str [c])) o7) (h1 := h0 ++ u1) (by rw [if_t (h1 := h0 ++ u) (by simp [SR, mdS])]; exact e1)]
        exact e3
      · rw [(noShut (leafV w) hsh).1]
        dsimp only
        rw [if_f (h1 := h0 ++ u) (by simp [SR, mdS])]
        rw [if_f (h1 := h0 ++ u) (by simp [SR, mdS, eg])]
        rw [if_f (h1 := h0 ++ u) (by simp [SR, mdS])]
        rw [if_f (h1 := h0 ++ u) (by
          by_cases hc2 : c = 32 ∨ c = 41
          · have hRl2 : ¬ 0 < R.length := fun z => hsh ⟨by simpa using z, hc2⟩
            have hR0 : R = [] := by
              cases R with
              | nil => rfl
              | cons a R => simp at hRl2
            subst hR0
            rcases hc2 with rfl | rfl <;> simp [SR, mdS] at in1 <;> simp [-z_lenC, SR, mdS, in1, lenC]
          · have h32 : ¬ c = 32 := fun z => hc2 (.inl z)
            have h41 : ¬ c = 41 := fun z => hc2 (.inr z)
            simp [SR, mdS] at in1
            simp [SR, mdS, in1, h32, h41])]
        exact ret_ok (by simp [SR])
  | value =>
    unfold step
    dsimp only
    by_cases ho : opens c = true
    · rw [if_pos ho]
      have hin := mO.mpr ho
      obtain ⟨u1, e1, S1⟩ := enterS .value ho
      refine ⟨u1, o7, ?_, S1⟩
      rw [if_f (h1 := h0 ++ u) (by simp [SR, mdS])]
      rw [if_f (h1 := h0 ++ u) (by simp [SR, mdS])]
      rw [if_t (h1 := h0 ++ u) (by simp [-List.mem_cons, SR, mdS, hin])]
      exact e1
    · rw [if_neg ho]
      have hin : ¬ c ∈ [40, 39, 45, 48, 49, 50, 51, 52, 53, 54, 55, 56, 57] := fun z => ho (mO.mp z)
      dsimp only
      rw [if_f (h1 := h0 ++ u) (by simp [SR, mdS])]
      rw [if_f (h1 := h0 ++ u) (by simp [SR, mdS])]
      rw [if_f (h1 := h0 ++ u) (by simp [-List.mem_cons, SR, mdS, hin])]
      rw [if_f (h1 := h0 ++ u) (by simp [SR, mdS] at in1 ⊢; simp [in1])]
      exact ret_ok (by simp [SR])
  | opn =>
    unfold step
    dsimp only
    by_cases ho : opens c = true
    · rw [if_pos ho]
      have hin := mO.mpr ho
      obtain ⟨u1, e1, S1⟩ := enterS .opn ho
      refine ⟨u1, o7, ?_, S1⟩
      rw [if_f (h1 := h0 ++ u) (by simp [SR, mdS])]
      rw [if_f (h1 := h0 ++ u) (by simp [SR, mdS])]
      rw [if_t (h1 := h0 ++ u) (by simp [-List.mem_cons, SR, mdS, hin])]
      exact e1
    · rw [if_neg ho]
      have hin : ¬ c ∈ [40, 39, 45, 48, 49, 50, 51, 52, 53, 54, 55, 56, 57] := fun z => ho (mO.mp z)
      by_cases h41 : c = 41
      · subst h41
        rw [if_pos rfl]
        have hR1 := (I.opn rfl).2.2
        obtain ⟨u2, o7', q', e2, e3, S2⟩ := shutS (T :: R) u .opn S hR1 (.inr rfl) (hF.mono (by omega))
        have hq' : q' = ⟨.behind, w, popT (T :: R)⟩ := by
          unfold shut at e2
          rw [if_pos hR1, if_neg (by decide), if_pos rfl] at e2
          cases e2
          rfl
        subst hq'
        refine ⟨u2, o7', ?_, S2⟩
        rw [if_f (h1 := h0 ++ u) (by simp [SR, mdS])]
        rw [if_f (h1 := h0 ++ u) (by simp [SR, mdS])]
        rw [if_f (h1 := h0 ++ u) (by simp [-List.mem_cons, SR, mdS, hin])]
        rw [if_t (h1 := h0 ++ u) (by simp [SR, mdS])]
        rw [seq_nx (if_no (h1 := h0 ++ u) (by simp [SR, mdS]))]
        exact e3
      · rw [if_neg h41]
        dsimp only
        rw [if_f (h1 := h0 ++ u) (by simp [SR, mdS])]
        rw [if_f (h1 := h0 ++ u) (by simp [SR, mdS])]
        rw [if_f (h1 := h0 ++ u) (by simp [-List.mem_cons, SR, mdS, hin])]
        rw [if_f (h1 := h0 ++ u) (by simp [SR, mdS] at in1 ⊢; simp [in1, h41])]
        exact ret_ok (by simp [SR])
  | behind =>
    unfold step
    dsimp only
    by_cases hsh : 1 < (T :: R).length ∧ (c = 32 ∨ c = 41)
    · obtain ⟨hsh1, hsh2⟩ := hsh
      obtain ⟨u2, o7', q', e2, e3, S2⟩ := shutS (T :: R) u .behind S hsh1 hsh2 (hF.mono (by omega))
      rw [e2]
      dsimp only
      refine ⟨u2, o7', ?_, S2⟩
      have hRl2 : 0 < R.length := by simpa using hsh1
      rw [if_f (h1 := h0 ++ u) (by simp [SR, mdS])]
      rw [if_f (h1 := h0 ++ u) (by simp [SR, mdS])]
      rw [if_f (h1 := h0 ++ u) (by simp [SR, mdS])]
      rw [if_t (h1 := h0 ++ u) (by
        rcases hsh2 with rfl | rfl <;> simp [SR, mdS] at in1 <;> simp [-z_lenC, SR, mdS, in1, lenC, lenC2, hRl2])]
      rw [seq_nx (if_no (h1 := h0 ++ u) (by simp [SR, mdS]))]
      exact e3
    · rw [(noShut .non hsh).2]
      dsimp only
      rw [if_f (h1 := h0 ++ u) (by simp [SR, mdS])]
      rw [if_f (h1 := h0 ++ u) (by simp [SR, mdS])]
      rw [if_f (h1 := h0 ++ u) (by simp [SR, mdS])]
      rw [if_f (h1 := h0 ++ u) (by
        by_cases hc2 : c = 32 ∨ c = 41
        · have hRl2 : ¬ 0 < R.length := fun z => hsh ⟨by simpa using z, hc2⟩
          have hR0 : R = [] := by
            cases R with
            | nil => rfl
            | cons a R => simp at hRl2
          subst hR0
          rcases hc2 with rfl | rfl <;> simp [SR, mdS] at in1 <;> simp [-z_lenC, SR, mdS, in1, lenC]
        · have h32 : ¬ c = 32 := fun z => hc2 (.inl z)
          have h41 : ¬ c = 41 := fun z => hc2 (.inr z)
          simp [SR, mdS] at in1
          simp [SR, mdS, in1, h32, h41])]
      exact ret_ok (by simp [SR])
end Lk94

end

section
set_option maxHeartbeats 4000000
namespace Lk94
open Mi MiL Cd
def badV (n : Nat) : AV := .tup [.str [98, 97, 100], .int n]
def resV : Sum Nat AV → AV
  | .inl n => badV n
  | .inr v => .tup [.str [118, 97, 108, 117, 101], v]
theorem step_w {q q' : MS} {c : Nat} (e : step q c = some q') : q'.w.length ≤ q.w.length + 1 := by
  have shutW : ∀ {R : List (List AV)} {w : List Nat}, shut w R c = some q' → q'.w = w := by
    intro R w e
    unfold shut at e
    split at e
    · split at e
      · cases e; rfl
      · split at e
        · cases e; rfl
        · cases e
    · cases e
  have entW : (enter q.R c).w.length ≤ 1 := by
    unfold enter
    split
    · simp
    · split <;> simp
  unfold step at e
  split at e
  · split at e
    · cases e; simp
    · split at e
      · cases e; simp
      · cases e
  · split at e
    · cases e; simp
    · rw [shutW e]; omega
  · split at e
    · cases e; omega
    · cases e
  · split at e
    · cases e; omega
    · split at e
      · cases e; simp
      · cases e
  · rw [shutW e]; omega
theorem lawread_ok {s : List Nat} (hl : s.length ≤ 100000) (h : AH) : ∃ u, m__law_read [.str s] h = .ok (resV (P s)) (h ++ u) := by
  have hB : inBig (s.length : Int) = true := inBig_of (by omega) (by omega)
  have hlen : s.length ≤ 16777216 := by omega
  have main := forL_ret (g := gNm 5) (b := s__law_read_0) (fun k σ h' => ∃ q u o5 o6 o7, σ = SR s h.length 1 q o5 o6 o7 ∧ h' = h ++ u ∧ Stk h.length u 1 q.R ∧ Inv q (s.take k) ∧ Few (2 * k) q.R ∧ q.w.length ≤ k ∧ P s = mrun q k (s.drop k))
    (fun v h' => ∃ u n, h' = h ++ u ∧ v = badV n ∧ P s = .inl n) (rng 0 s.length) 0 (SR s h.length 1 ⟨.value, [], [[]]⟩ none none none) (h ++ [.lst [], .lst [.cel h.length]])
    ⟨⟨.value, [], [[]]⟩, _, none, none, none, rfl, rfl, stk_one h, inv0, by intro T hT; simp at hT; subst hT; simp, by simp, rfl⟩
    (fun k x σ h' hx ⟨q, u, o5, o6, o7, e1, e2, S, I, hF, hw, hP⟩ => by
      subst e1 e2
      obtain ⟨hk, rfl⟩ := rng_get hx
      rw [Nat.zero_add] at I hF hw hP ⊢
      obtain ⟨c, hc⟩ : ∃ c, s[k]? = some c := ⟨_, List.getElem?_eq_getElem hk⟩
      have hd : s.drop k = c :: s.drop (k + 1) := by
        rw [List.drop_eq_getElem_cons hk]
        congr
        rw [List.getElem?_eq_getElem hk] at hc
        exact Option.some.inj hc
      have ht : s.take (k + 1) = s.take k ++ [c] := by
        rw [List.take_add_one, hc]
        rfl
      have st := read_step (o6 := o6) (o7 := o7) I hF (by omega) hc hl (by simp; omega) (by omega) S
      rw [hd] at hP
      have hP : P s = match step q c with | some q' => mrun q' (k + 1) (s.drop (k + 1)) | none => .inl k := hP
      refine ⟨SR s h.length 1 q (some (.int k)) o6 o7, h ++ u, by rw [Int.zero_add]; rfl, ?_⟩
      cases e : step q c with
      | none =>
        rw [e] at st hP
        exact .inr ⟨_, _, st, u, k, rfl, rfl, hP⟩
      | some q' =>
        rw [e] at st hP
        obtain ⟨u', o7', e3, S'⟩ := st
        have hF' := few_step hF e
        have hw' := step_w e
        exact .inl ⟨_, _, .inl e3, q', u', _, _, _, rfl, rfl, S', by rw [ht]; exact step_inv I e, hF'.mono (by omega), by omega, hP⟩)
  rw [Nat.zero_add, rng_len] at main
  have pre : ∀ rr, sSeq (sFor (iRng1 (eCall cLen (aCons (eVar 0) (aNil)))) (gNm 5) (s__law_read_0)) (sSeq (sIf (tOr (tB (eOp2 oGt (eCall cLen (aCons (eVar 2) (aNil))) (eC (.int 1)))) (tOr (tB (eOp2 oEq (eVar 4) (eC (.str [118, 97, 108, 117, 101])))) (tB (eOp2 oEq (eVar 4) (eC (.str [116, 101, 120, 116])))))) (sRet (eTup (aCons (eC (.str [98, 97, 100])) (aCons (eCall cLen (aCons (eVar 0) (aNil))) (aNil))))) (sNx)) (sSeq (sIf (tB (eOp2 oEq (eVar 4) (eC (.str [108, 101, 97, 102])))) (sDrop (eM1 "list" mAppend (eOp2 oIx (eVar 2) (eOp1 oNeg (eC (.int 1)))) (eCall m__law_leaf_of (aCons (eVar 3) (aNil))))) (sNx)) (sRet (eTup (aCons (eC (.str [118, 97, 108, 117, 101])) (aCons (eOp2 oIx (eOp2 oIx (eVar 2) (eC (.int 0))) (eC (.int 0))) (aNil)))))))
      (SR s h.length 1 ⟨.value, [], [[]]⟩ none none none) (h ++ [.lst [], .lst [.cel h.length]]) = rr → ∀ v h', rr = .rt v h' → m__law_read [.str s] h = .ok v h' := by
    intro rr hr v h' hv
    refine def_rt rfl ?_
    show sSeq _ _ [some (.str s), none, none, none, none, none, none, none] _ = _
    rw [seq_nx (σ1 := [some (.str s), some (.str SG), none, none, none, none, none, none]) (h1 := h) (by simp [signs_ok]; rfl)]
    rw [seq_nx (σ1 := [some (.str s), some (.str SG), some (.cel (h.length + 1)), none, none, none, none, none]) (h1 := h ++ [.lst [], .lst [.cel h.length]]) (by simp)]
    rw [seq_nx (σ1 := [some (.str s), some (.str SG), some (.cel (h.length + 1)), some (.str []), none, none, none, none]) (h1 := h ++ [.lst [], .lst [.cel h.length]]) (by simp)]
    rw [seq_nx (σ1 := SR s h.length 1 ⟨.value, [], [[]]⟩ none none none) (h1 := h ++ [.lst [], .lst [.cel h.length]]) (by simp [SR, mdS])]
    rw [← hv, ← hr]
  rcases main with ⟨σ', h', e, q, u, o5, o6, o7, rfl, rfl, S, I, hF, hw, hP⟩ | ⟨v, h', e, u, n, rfl, rfl, hP⟩
  · rw [List.drop_of_length_le (Nat.le_refl _)] at hP
    rw [List.take_of_length_le (Nat.le_refl _)] at I
    have hP : P s = fin q s.length := hP
    obtain ⟨m, w, R0⟩ := q
    obtain ⟨T, R, rfl⟩ : ∃ T R, R0 = T :: R := by
      cases hq : R0 with
      | nil => exact absurd hq I.ne
      | cons T R => exact ⟨T, R, rfl⟩
    have hT : T.length < 16777216 := by
      have := hF T (by simp)
      omega
    have lenC := S.len
    have lenC2 : (1 : Int) < (R.length : Int) + 1 ↔ 0 < R.length := by omega
    have fs := for_seq (it := iRng1 (eCall cLen (aCons (eVar 0) (aNil)))) (σ := SR s h.length 1 ⟨.value, [], [[]]⟩ none none none) (h := h ++ [.lst [], .lst [.cel h.length]]) (h1 := h ++ [.lst [], .lst [.cel h.length]]) (xs := rng 0 s.length) (by simp [SR, hlen, hB]) e
    by_cases hbad : 1 < (T :: R).length ∨ m = .value ∨ m = .text
    · have hP2 : P s = .inl s.length := by
        rw [hP]
        unfold fin
        rw [if_pos hbad]
      rw [hP2]
      refine ⟨u, pre _ ?_ _ _ rfl⟩
      rw [seq_nx fs]
      refine seq_rt ?_
      rw [if_t (h1 := h ++ u) (by
        by_cases h1 : 0 < R.length
        · simp [-z_lenC, SR, lenC, lenC2, h1]
        · have hR0 : R = [] := by
            cases R with
            | nil => rfl
            | cons a R => simp at h1
          subst hR0
          rcases hbad with z | z | z
          · simp at z
          · subst z
            simp [-z_lenC, SR, lenC, mdS]
          · subst z
            simp [-z_lenC, SR, lenC, mdS])]
      exact ret_ok (by simp [SR, hlen, badV, resV])
    · have hR0 : R = [] := by
        cases R with
        | nil => rfl
        | cons a R => exact absurd (.inl (by simp)) hbad
      subst hR0
      have hm1 : m ≠ .value := fun z => hbad (.inr (.inl z))
      have hm2 : m ≠ .text := fun z => hbad (.inr (.inr z))
      have hm3 : m ≠ .opn := fun z => by
        subst z
        have := (I.opn rfl).2.2
        simp at this
      have b1 : (mdS m == mdS .value) = false := by rw [md_eq]; exact decide_eq_false hm1
      have b2 : (mdS m == mdS .text) = false := by rw [md_eq]; exact decide_eq_false hm2
      have t0 : ∀ rr, sSeq (sIf (tB (eOp2 oEq (eVar 4) (eC (.str [108, 101, 97, 102])))) (sDrop (eM1 "list" mAppend (eOp2 oIx (eVar 2) (eOp1 oNeg (eC (.int 1)))) (eCall m__law_leaf_of (aCons (eVar 3) (aNil))))) (sNx)) (sRet (eTup (aCons (eC (.str [118, 97, 108, 117, 101])) (aCons (eOp2 oIx (eOp2 oIx (eVar 2) (eC (.int 0))) (eC (.int 0))) (aNil))))) (SR s h.length 1 ⟨m, w, [T]⟩ o5 o6 o7) (h ++ u) = rr → ∀ v h', rr = .rt v h' → m__law_read [.str s] h = .ok v h' := by
        intro rr hr v h' hv
        refine pre _ ?_ _ _ hv
        rw [seq_nx fs]
        rw [seq_nx (if_no (h1 := h ++ u) (by simp [-z_lenC, SR, lenC, show (mdS m == [118, 97, 108, 117, 101]) = false from b1, show (mdS m == [116, 101, 120, 116]) = false from b2]))]
        exact hr
      -- the value
      have finV : ∀ (u2 : AH) (T2 : List AV) (w2 : List Nat) (m2 : Md), Stk h.length u2 1 [T2] → ∀ v, T2 = [v] → sRet (eTup (aCons (eC (.str [118, 97, 108, 117, 101])) (aCons (eOp2 oIx (eOp2 oIx (eVar 2) (eC (.int 0))) (eC (.int 0))) (aNil)))) (SR s h.length 1 ⟨m2, w2, [T2]⟩ o5 o6 o7) (h ++ u2) = .rt (.tup [.str [118, 97, 108, 117, 101], v]) (h ++ u2) := by
        intro u2 T2 w2 m2 S2 v hv
        obtain ⟨as, g1, g2, g3⟩ := S2
        obtain ⟨a, rfl⟩ : ∃ a, as = [a] := by
          have := g3.len
          cases as with
          | nil => simp at this
          | cons a as =>
            cases as with
            | nil => exact ⟨a, rfl⟩
            | cons b as => simp at this
        have g4 := g3.1
        refine ret_ok ?_
        simp [SR, get_rel, g1, g4, hv]
      by_cases hlf : m = .leaf
      · subst hlf
        obtain ⟨_, hlf⟩ := I.leaf rfl
        dsimp only at hlf hw
        have el := fun hh => leafof_ok hlf (by
          rcases hlf with rfl | ⟨_, h⟩ | ⟨ds, rfl, _, _, h⟩
          · decide
          · omega
          · simp; omega) hh
        have J := leaf_behind I rfl
        obtain ⟨T', v', R', hR, _, hb⟩ := J.beh rfl
        have hR : (T ++ [leafV w]) :: [] = (T' ++ [v']) :: R' := hR
        have hR' : R' = [] := by
          injection hR with _ h
          exact h.symm
        subst hR'
        have hT' : T' = [] := by simpa using hb
        subst hT'
        have hT2 : T ++ [leafV w] = [v'] := by
          injection hR
        have hT0 : T = [] := by
          cases T with
          | nil => rfl
          | cons a T => simp at hT2
        subst hT0
        obtain ⟨u1, e1, S1⟩ := app_top S (σ := SR s h.length 1 ⟨.leaf, w, [[]]⟩ o5 o6 o7) (i := 2) (e := eCall m__law_leaf_of (aCons (eVar 3) (aNil))) (v := leafV w) rfl (by simp [SR, el]) hT
        have hP2 : P s = .inr (leafV w) := by
          rw [hP]
          rfl
        rw [hP2]
        refine ⟨u1, t0 _ ?_ _ _ rfl⟩
        rw [seq_nx (σ1 := SR s h.length 1 ⟨.leaf, w, [[] ++ [leafV w]]⟩ o5 o6 o7) (h1 := h ++ u1) (by rw [if_t (h1 := h ++ u) (by simp [SR, mdS])]; exact e1)]
        exact finV u1 _ w .leaf S1 (leafV w) rfl
      · have b3 : (mdS m == mdS .leaf) = false := by rw [md_eq]; exact decide_eq_false hlf
        have hmb : m = .behind := by
          cases m <;> first | rfl | exact absurd rfl hm1 | exact absurd rfl hm2 | exact absurd rfl hm3 | exact absurd rfl hlf
        subst hmb
        obtain ⟨T', v', R', hR, _, hb⟩ := I.beh rfl
        have hR : T :: [] = (T' ++ [v']) :: R' := hR
        injection hR with hR1 hR'
        subst hR'
        have hT' : T' = [] := by simpa using hb
        subst hT'
        have hT1 : T = [v'] := hR1
        have hP2 : P s = .inr v' := by
          rw [hP, hT1]
          rfl
        rw [hP2]
        refine ⟨u, t0 _ ?_ _ _ rfl⟩
        rw [seq_nx (if_no (h1 := h ++ u) (by simp [SR, mdS]))]
        exact finV u _ w .behind S v' hT1
  · have fs := for_seq (it := iRng1 (eCall cLen (aCons (eVar 0) (aNil)))) (σ := SR s h.length 1 ⟨.value, [], [[]]⟩ none none none) (h := h ++ [.lst [], .lst [.cel h.length]]) (h1 := h ++ [.lst [], .lst [.cel h.length]]) (xs := rng 0 s.length) (by simp [SR, hlen, hB]) e
    rw [hP]
    exact ⟨u, pre _ (seq_rt fs) _ _ rfl⟩
end Lk94

end

section
set_option maxHeartbeats 4000000
namespace Lk94
open Mi MiL Cd
theorem cut_mid {α : Type} {xs : List α} {a b : Nat} : cut xs (some (a : Int)) (some (b : Int)) = (xs.drop a).take (b - a) := by
  unfold cut sIx
  simp only [if_neg (show ¬ ((a : Int) < 0) by omega), if_neg (show ¬ ((b : Int) < 0) by omega), Int.toNat_natCast]
  by_cases ha : a ≤ xs.length
  · rw [Nat.min_eq_left ha]
    by_cases hb : b ≤ xs.length
    · rw [Nat.min_eq_left hb]
    · rw [Nat.min_eq_right (by omega)]
      rw [List.take_of_length_le (by simp), List.take_of_length_le (by simp; omega)]
  · rw [Nat.min_eq_right (show xs.length ≤ a by omega), List.drop_of_length_le (Nat.le_refl _), List.drop_of_length_le (by omega)]
    simp
theorem drop_at {s : List Nat} {k c : Nat} (h : s[k]? = some c) : s.drop k = c :: s.drop (k + 1) := by
  obtain ⟨hk, e⟩ := List.getElem?_eq_some_iff.mp h
  rw [List.drop_eq_getElem_cons hk, e]
theorem one_at {s : List Nat} {k c : Nat} (h : s[k]? = some c) : cut s (some (k : Int)) (some ((k : Int) + 1)) = [c] := by
  rw [show (k : Int) + 1 = ((k + 1 : Nat) : Int) by omega, cut_mid, drop_at h, show k + 1 - k = 1 by omega]
  rfl
theorem one_end {s : List Nat} {k : Nat} (h : s[k]? = none) : cut s (some (k : Int)) (some ((k : Int) + 1)) = [] := by
  have := List.getElem?_eq_none_iff.mp h
  rw [show (k : Int) + 1 = ((k + 1 : Nat) : Int) by omega, cut_mid, List.drop_of_length_le this]
  simp
theorem sign_ok (c : Nat) (h : AH) : m_is_written_sign [.str [c]] h = .ok (.bl (sgn c)) h := by
  have e : oIn (.int c) (.scr true [.int 37, .int 39, .int 59]) h = .ok (.bl (c == 37 || c == 39 || c == 59)) h := by
    unfold oIn
    simp only [AV.flat, List.all_cons, List.all_nil, Bool.and_self, if_true, List.any_cons, List.any_nil, AV.eqv, Bool.or_false]
    congr 2
    have h1 : ∀ k : Nat, ((k : Int) == (c : Int)) = (c == k) := fun k => by
      rw [Bool.eq_iff_iff, beq_iff_eq, beq_iff_eq]
      omega
    have h37 : ((37 : Int) == (c : Int)) = (c == 37) := h1 37
    have h39 : ((39 : Int) == (c : Int)) = (c == 39) := h1 39
    have h59 : ((59 : Int) == (c : Int)) = (c == 59) := h1 59
    rw [h37, h39, h59, Bool.or_assoc]
  refine def_rt rfl (ret_ok ?_)
  show eAnd _ _ [some (.str [c])] _ = _
  by_cases h1 : (32 : Int) ≤ c
  · by_cases h2 : (c : Int) ≤ 126
    · have hs : sgn c = !(c == 37 || c == 39 || c == 59) := by
        unfold sgn
        rw [decide_eq_true (show 32 ≤ c by omega), decide_eq_true (show c ≤ 126 by omega)]
        simp [Bool.and_assoc]
      rw [hs]
      simp [h1, h2, e]
    · have hs : sgn c = false := by
        unfold sgn
        rw [decide_eq_false (show ¬ c ≤ 126 by omega)]
        simp
      rw [hs]
      simp [h1, h2]
  · have hs : sgn c = false := by
      unfold sgn
      rw [decide_eq_false (show ¬ 32 ≤ c by omega)]
      simp
    rw [hs]
    simp [h1]
def badX (n : Nat) : AX := ⟨"BadValue", ["at"], [.int n]⟩
/-! ### read_text -/
theorem text_loop {s : List Nat} {at_ : Nat} (hl : s.length ≤ 100000) {h : AH} : ∀ (rest w : List Nat) (place fuel : Nat), s.drop place = rest → rest.length < fuel → at_ + 1 ≤ place → place ≤ s.length → (s.drop (at_ + 1)).take (place - (at_ + 1)) = w →
    (∃ p w', at_ + 1 ≤ p ∧ whileF t_read_text_0 s_read_text_0 fuel [some (.str s), some (.int at_), some (.int place)] h = .nx [some (.str s), some (.int at_), some (.int p)] h ∧ s[p]? = some 39 ∧ (s.drop (at_ + 1)).take (p - (at_ + 1)) = w' ∧ ∀ R, mrun ⟨.text, w, R⟩ place rest = mrun ⟨.behind, w', push (.str (repC 59 [10] w')) R⟩ (p + 1) (s.drop (p + 1))) ∨
    (whileF t_read_text_0 s_read_text_0 fuel [some (.str s), some (.int at_), some (.int place)] h = .nx [some (.str s), some (.int at_), some (.int s.length)] h ∧ ∀ R, mrun ⟨.text, w, R⟩ place rest = .inl s.length) ∨
    (∃ p, whileF t_read_text_0 s_read_text_0 fuel [some (.str s), some (.int at_), some (.int place)] h = .ex (badX p) [some (.str s), some (.int at_), some (.int p)] h ∧ ∀ R, mrun ⟨.text, w, R⟩ place rest = .inl p)
  | _, _, _, 0, _, hf, _, _, _ => by omega
  | [], w, place, f + 1, hd, _, ha, hp, hw => by
    have hlen : s.length ≤ 16777216 := by omega
    have : place = s.length := by
      have := List.drop_eq_nil_iff.mp hd
      omega
    subst this
    refine .inr (.inl ⟨?_, fun R => by show fin _ _ = _; simp [fin]⟩)
    unfold whileF
    have hc : t_read_text_0 [some (.str s), some (.int at_), some (.int (s.length : Int))] h = .ok false h := by simp [t_read_text_0, hlen]
    rw [hc]
    rfl
  | c :: r, w, place, f + 1, hd, hf, ha, hp, hw => by
    have hlen : s.length ≤ 16777216 := by omega
    have hpl : place < s.length := by
      rcases Nat.lt_or_ge place s.length with z | z
      · exact z
      · rw [List.drop_of_length_le z] at hd
        cases hd
    have hc : s[place]? = some c := by
      rw [← List.head?_drop, hd]
      rfl
    have hr : s.drop (place + 1) = r := by
      have := drop_at hc
      rw [hd] at this
      injection this with _ e
      exact e.symm
    have hpI : (place : Int) < s.length := by omega
    by_cases h39 : c = 39
    · subst h39
      refine .inl ⟨place, w, ha, ?_, hc, hw, fun R => by rw [hr]; rfl⟩
      unfold whileF
      have hcnd : t_read_text_0 [some (.str s), some (.int at_), some (.int place)] h = .ok false h := by simp [t_read_text_0, hlen, hpI, atI_nat, hc]
      rw [hcnd]
      rfl
    · have hcnd : t_read_text_0 [some (.str s), some (.int at_), some (.int place)] h = .ok true h := by simp [t_read_text_0, hlen, hpI, atI_nat, hc, h39]
      have hs := sign_ok c h
      by_cases hok : (sgn c || c == 59) = true
      · have hb : s_read_text_0 [some (.str s), some (.int at_), some (.int place)] h = .nx [some (.str s), some (.int at_), some (.int ((place + 1 : Nat) : Int))] h := by
          by_cases h1 : sgn c = true
          · simp [s_read_text_0, hlen, atI_nat, hc, hs, h1]
          · obtain rfl : c = 59 := by simpa [h1] using hok
            have h3 : sgn 59 = false := by decide
            simp [s_read_text_0, hlen, atI_nat, hc, hs, h3]
        have wh : whileF t_read_text_0 s_read_text_0 (f + 1) [some (.str s), some (.int at_), some (.int place)] h = whileF t_read_text_0 s_read_text_0 f [some (.str s), some (.int at_), some (.int ((place + 1 : Nat) : Int))] h := by
          rw [whileF, hcnd]
          simp only [Res.st_ok, if_true]
          rw [hb]
        have hm : ∀ R, mrun ⟨.text, w, R⟩ place (c :: r) = mrun ⟨.text, w ++ [c], R⟩ (place + 1) r := fun R => by
          show (match step ⟨.text, w, R⟩ c with | some q' => mrun q' (place + 1) r | none => .inl place) = _
          have : step ⟨.text, w, R⟩ c = some ⟨.text, w ++ [c], R⟩ := by
            unfold step
            dsimp only
            rw [if_neg h39, if_pos hok]
          rw [this]
        have hw2 : (s.drop (at_ + 1)).take (place + 1 - (at_ + 1)) = w ++ [c] := by
          rw [show place + 1 - (at_ + 1) = place - (at_ + 1) + 1 by omega, List.take_add_one, hw]
          have : (s.drop (at_ + 1))[place - (at_ + 1)]? = some c := by
            rw [List.getElem?_drop, show at_ + 1 + (place - (at_ + 1)) = place by omega, hc]
          rw [this]
          rfl
        have ih := text_loop hl (h := h) r (w ++ [c]) (place + 1) f hr (by simp only [List.length_cons] at hf; omega) (by omega) (by omega) hw2
        rw [wh]
        rcases ih with ⟨p, w', h1, h2, h3, h4, h5⟩ | ⟨h1, h2⟩ | ⟨p, h1, h2⟩
        · exact .inl ⟨p, w', h1, h2, h3, h4, fun R => by rw [hm R, h5 R]⟩
        · exact .inr (.inl ⟨h1, fun R => by rw [hm R, h2 R]⟩)
        · exact .inr (.inr ⟨p, h1, fun R => by rw [hm R, h2 R]⟩)
      · refine .inr (.inr ⟨place, ?_, fun R => ?_⟩)
        · have h1 : sgn c = false := by
            cases z : sgn c with
            | false => rfl
            | true => rw [z] at hok; simp at hok
          have h2 : ¬ c = 59 := fun z => by rw [z] at hok; simp at hok
          have hb : s_read_text_0 [some (.str s), some (.int at_), some (.int place)] h = .ex (badX place) [some (.str s), some (.int at_), some (.int place)] h := by
            simp [s_read_text_0, hlen, atI_nat, hc, hs, h1, h2, badX]
          rw [whileF, hcnd]
          simp only [Res.st_ok, if_true]
          rw [hb]
        · show (match step ⟨.text, w, R⟩ c with | some q' => mrun q' (place + 1) r | none => .inl place) = _
          have : step ⟨.text, w, R⟩ c = none := by
            unfold step
            dsimp only
            rw [if_neg h39, if_neg hok]
          rw [this]
theorem readtext_ok {s : List Nat} {at_ : Nat} (hl : s.length ≤ 100000) (ha : at_ < s.length) (h : AH) :
    (∃ p w', at_ < p ∧ p < s.length ∧ m_read_text [.str s, .int at_] h = .ok (.tup [.str (repC 59 [10] w'), .int ((p + 1 : Nat) : Int)]) h ∧ ∀ R, mrun ⟨.text, [], R⟩ (at_ + 1) (s.drop (at_ + 1)) = mrun ⟨.behind, w', push (.str (repC 59 [10] w')) R⟩ (p + 1) (s.drop (p + 1))) ∨
    (∃ p, m_read_text [.str s, .int at_] h = .ex (badX p) h ∧ ∀ R, mrun ⟨.text, [], R⟩ (at_ + 1) (s.drop (at_ + 1)) = .inl p) := by
  have hlen : s.length ≤ 16777216 := by omega
  have lp := text_loop hl (h := h) (s.drop (at_ + 1)) [] (at_ + 1) 1000000 rfl (by simp; omega) (Nat.le_refl _) (by omega) (by simp)
  have beg : ∀ t, sSeq (sAsg (eOp2 oAdd (eVar 1) (eC (.int 1))) (gNm 2)) t [some (.str s), some (.int at_), none] h = t [some (.str s), some (.int at_), some (.int ((at_ + 1 : Nat) : Int))] h := fun t => seq_nx (by simp)
  rcases lp with ⟨p, w', h1, h2, h3, h4, h5⟩ | ⟨h1, h2⟩ | ⟨p, h1, h2⟩
  · have hp := (List.getElem?_eq_some_iff.mp h3).1
    refine .inl ⟨p, w', by omega, hp, ?_, h5⟩
    refine def_rt rfl ?_
    show sSeq _ _ [some (.str s), some (.int at_), none] _ = _
    rw [beg]
    rw [seq_nx (show sWhile 1000000 _ _ _ _ = _ from h2)]
    have hne : ¬ ((p : Int) = s.length) := by omega
    rw [seq_nx (if_no (h1 := h) (by simp [hlen]; omega))]
    refine ret_ok ?_
    have hcut : cut s (some ((at_ : Int) + 1)) (some (p : Int)) = w' := by
      rw [show (at_ : Int) + 1 = ((at_ + 1 : Nat) : Int) by omega, cut_mid, h4]
    have hwl : w'.length ≤ s.length := by
      rw [← h4]
      simp
      omega
    have hw2 : w'.length + (w'.length + 1) ≤ 16777216 := by omega
    simp [hlen, hcut, hw2]
  · refine .inr ⟨s.length, ?_, h2⟩
    refine def_ex (σ1 := [some (.str s), some (.int at_), some (.int s.length)]) rfl ?_
    show sSeq _ _ [some (.str s), some (.int at_), none] h = _
    rw [beg]
    rw [seq_nx (show sWhile 1000000 _ _ _ _ = _ from h1)]
    refine seq_ex ?_
    rw [if_t (h1 := h) (by simp [hlen])]
    simp [badX]
  · refine .inr ⟨p, ?_, h2⟩
    refine def_ex (σ1 := [some (.str s), some (.int at_), some (.int p)]) rfl ?_
    show sSeq _ _ [some (.str s), some (.int at_), none] h = _
    rw [beg]
    exact seq_ex (show sWhile 1000000 _ _ _ _ = _ from h1)
end Lk94

end

section
set_option maxHeartbeats 4000000
namespace Lk94
open Mi MiL Cd
/-! ### figures -/
theorem goes_fig {p ds : List Nat} {c : Nat} (hp : p = [] ∨ p = [45]) (hd : ∀ x ∈ ds, isD x = true) (hh : ∃ a r, ds = a :: r ∧ a ≠ 48) : goesOn (p ++ ds) c = (isD c && decide (ds.length < 30)) := by
  obtain ⟨a, r, rfl, ha⟩ := hh
  have hD := isD_iff.mp (hd a (by simp))
  unfold goesOn
  rcases hp with rfl | rfl
  · have h1 : (([] ++ a :: r) == [48]) = false := by simp; exact fun z => absurd z ha
    have h2 : ¬ ([] ++ a :: r) = [45] := by simp; omega
    have h3 : (([] ++ a :: r).head? == some 45) = false := by simp; omega
    rw [h1, if_neg h2, h3]
    simp [b2i]
    congr 1
    exact decide_eq_decide.mpr (by omega)
  · have h1 : (([45] ++ a :: r) == [48]) = false := by simp
    have h2 : ¬ ([45] ++ a :: r) = [45] := by simp
    have h3 : (([45] ++ a :: r).head? == some 45) = true := by simp
    rw [h1, if_neg h2, h3]
    simp [b2i]
    congr 1
    exact decide_eq_decide.mpr (by omega)
theorem fig_loop {s : List Nat} {at_ : Nat} (hl : s.length ≤ 100000) {h : AH} : ∀ (rest ds : List Nat) (place fuel : Nat), s.drop place = rest → rest.length < fuel → at_ ≤ place → place ≤ s.length → (s.drop at_).take (place - at_) = ds → ds.length = place - at_ → ds.length ≤ 30 → (∀ x ∈ ds, isD x = true) → (∃ a r, ds = a :: r ∧ a ≠ 48) →
    ∃ (e : Nat) (ds' : List Nat), whileF t_figures_end_0 s_figures_end_0 fuel [some (.str s), some (.int at_), some (.int place)] h = .nx [some (.str s), some (.int at_), some (.int (e : Int))] h ∧ place ≤ e ∧ e ≤ s.length ∧ (s.drop at_).take (e - at_) = ds' ∧ ds'.length ≤ 30 ∧ (∀ x ∈ ds', isD x = true) ∧ (∃ a r, ds' = a :: r ∧ a ≠ 48) ∧
      (∀ c, s[e]? = some c → ∀ p, p = [] ∨ p = [45] → goesOn (p ++ ds') c = false) ∧ ∀ R p, p = [] ∨ p = [45] → mrun ⟨.leaf, p ++ ds, R⟩ place rest = mrun ⟨.leaf, p ++ ds', R⟩ e (s.drop e)
  | _, _, _, 0, _, hf, _, _, _, _, _, _, _ => by omega
  | [], ds, place, f + 1, hd, _, ha, hp, hw, hwl, h30, hD, hh => by
    have hlen : s.length ≤ 16777216 := by omega
    have : place = s.length := by
      have := List.drop_eq_nil_iff.mp hd
      omega
    subst this
    refine ⟨s.length, ds, ?_, Nat.le_refl _, Nat.le_refl _, hw, h30, hD, hh, fun c hc => ?_, fun R p _ => by rw [List.drop_of_length_le (Nat.le_refl _)]⟩
    · unfold whileF
      have hc : t_figures_end_0 [some (.str s), some (.int at_), some (.int (s.length : Int))] h = .ok false h := by simp [t_figures_end_0, hlen]
      rw [hc]
      rfl
    · rw [List.getElem?_eq_none (Nat.le_refl _)] at hc
      cases hc
  | c :: r, ds, place, f + 1, hd, hf, ha, hp, hw, hwl, h30, hD, hh => by
    have hlen : s.length ≤ 16777216 := by omega
    have hpl : place < s.length := by
      rcases Nat.lt_or_ge place s.length with z | z
      · exact z
      · rw [List.drop_of_length_le z] at hd
        cases hd
    have hc : s[place]? = some c := by
      rw [← List.head?_drop, hd]
      rfl
    have hr : s.drop (place + 1) = r := by
      have := drop_at hc
      rw [hd] at this
      injection this with _ e
      exact e.symm
    have hpI : (place : Int) < s.length := by omega
    have hfm : (c ∈ [48, 49, 50, 51, 52, 53, 54, 55, 56, 57]) = (isD c = true) := propext figs_mem
    by_cases hgo : isD c = true ∧ ds.length < 30
    · have hlt : (place : Int) - at_ < 30 := by omega
      have hcnd : t_figures_end_0 [some (.str s), some (.int at_), some (.int place)] h = .ok true h := by
        simp [-List.mem_cons, t_figures_end_0, hlen, hpI, atI_nat, hc, hfm, hgo.1, hlt]
      have hb : s_figures_end_0 [some (.str s), some (.int at_), some (.int place)] h = .nx [some (.str s), some (.int at_), some (.int ((place + 1 : Nat) : Int))] h := by simp [s_figures_end_0]
      have wh : whileF t_figures_end_0 s_figures_end_0 (f + 1) [some (.str s), some (.int at_), some (.int place)] h = whileF t_figures_end_0 s_figures_end_0 f [some (.str s), some (.int at_), some (.int ((place + 1 : Nat) : Int))] h := by
        rw [whileF, hcnd]
        simp only [Res.st_ok, if_true]
        rw [hb]
      have hw2 : (s.drop at_).take (place + 1 - at_) = ds ++ [c] := by
        rw [show place + 1 - at_ = place - at_ + 1 by omega, List.take_add_one, hw]
        have : (s.drop at_)[place - at_]? = some c := by
          rw [List.getElem?_drop, show at_ + (place - at_) = place by omega, hc]
        rw [this]
        rfl
      obtain ⟨a, q, rfl, hane⟩ := hh
      obtain ⟨e, ds', g1, g2, g3, g4, g5, g6, g7, g8, g9⟩ := fig_loop hl (h := h) r (a :: q ++ [c]) (place + 1) f hr (by simp only [List.length_cons] at hf; omega) (by omega) (by omega) hw2 (by simp only [List.length_append, List.length_cons, List.length_nil] at hwl ⊢; omega) (by simp only [List.length_append, List.length_cons, List.length_nil] at hgo ⊢; omega) (fun x hx => by
        rcases List.mem_append.mp hx with hx | hx
        · exact hD x hx
        · simp at hx
          subst hx
          exact hgo.1) ⟨a, q ++ [c], rfl, hane⟩
      refine ⟨e, ds', by rw [wh]; exact g1, by omega, g3, g4, g5, g6, g7, g8, fun R p hp => ?_⟩
      rw [← g9 R p hp]
      show (match step ⟨.leaf, p ++ a :: q, R⟩ c with | some q' => mrun q' (place + 1) r | none => .inl place) = _
      have : step ⟨.leaf, p ++ a :: q, R⟩ c = some ⟨.leaf, p ++ (a :: q ++ [c]), R⟩ := by
        unfold step
        dsimp only
        rw [goes_fig hp hD ⟨a, q, rfl, hane⟩, hgo.1, decide_eq_true hgo.2]
        simp
      rw [this]
    · refine ⟨place, ds, ?_, Nat.le_refl _, hp, hw, h30, hD, hh, fun c' hc' p hp => ?_, fun R p _ => by rw [hd]⟩
      · have hcnd : t_figures_end_0 [some (.str s), some (.int at_), some (.int place)] h = .ok false h := by
          by_cases h1 : isD c = true
          · have hlt : ¬ ((place : Int) - at_ < 30) := by
              have : ¬ ds.length < 30 := fun z => hgo ⟨h1, z⟩
              omega
            simp [-List.mem_cons, t_figures_end_0, hlen, hpI, atI_nat, hc, hfm, h1, hlt]
          · have h1 : isD c = false := by simpa using h1
            simp [-List.mem_cons, t_figures_end_0, hlen, hpI, atI_nat, hc, hfm, h1]
        rw [whileF, hcnd]
        rfl
      · rw [hc] at hc'
        cases hc'
        rw [goes_fig hp hD hh]
        cases z1 : isD c with
        | false => rfl
        | true => rw [decide_eq_false fun z => hgo ⟨z1, z⟩]; rfl
/-- the figures from a place on -/
theorem figs_ok {s : List Nat} {at_ c : Nat} (hl : s.length ≤ 100000) (hc : s[at_]? = some c) (hD : isD c = true) (h : AH) :
    ∃ (e : Nat) (ds : List Nat), m_figures_end [.str s, .int at_] h = .ok (.int (e : Int)) h ∧ at_ < e ∧ e ≤ s.length ∧ (s.drop at_).take (e - at_) = ds ∧ canon ds ∧ ds.length ≤ 30 ∧ (c = 48 → ds = [48]) ∧ (c ≠ 48 → ds ≠ [48]) ∧
      (∀ c', s[e]? = some c' → goesOn ds c' = false) ∧ (c ≠ 48 → ∀ c', s[e]? = some c' → goesOn (45 :: ds) c' = false) ∧
      (∀ R, mrun ⟨.leaf, [c], R⟩ (at_ + 1) (s.drop (at_ + 1)) = mrun ⟨.leaf, ds, R⟩ e (s.drop e)) ∧ (c ≠ 48 → ∀ R, mrun ⟨.leaf, [45, c], R⟩ (at_ + 1) (s.drop (at_ + 1)) = mrun ⟨.leaf, 45 :: ds, R⟩ e (s.drop e)) := by
  have hlen : s.length ≤ 16777216 := by omega
  have hat := (List.getElem?_eq_some_iff.mp hc).1
  have hatI : (at_ : Int) < s.length := by omega
  have one : (s.drop at_).take 1 = [c] := by rw [drop_at hc]; rfl
  by_cases h48 : c = 48
  · subst h48
    refine ⟨at_ + 1, [48], ?_, by omega, by omega, by rw [show at_ + 1 - at_ = 1 by omega]; exact one, .inl rfl, by simp, fun _ => rfl, fun z => absurd rfl z, fun c' _ => by simp [goesOn], fun z => absurd rfl z, fun R => rfl, fun z => absurd rfl z⟩
    refine def_rt rfl (seq_rt ?_)
    show sIf _ _ _ [some (.str s), some (.int at_), none] _ = _
    rw [if_t (h1 := h) (by simp [hlen, atI_nat, hc])]
    exact ret_ok (by simp)
  · have hfm : (c ∈ [48, 49, 50, 51, 52, 53, 54, 55, 56, 57]) = (isD c = true) := propext figs_mem
    obtain ⟨e, ds, g1, g2, g3, g4, g5, g6, g7, g8, g9⟩ := fig_loop (at_ := at_) hl (h := h) (s.drop (at_ + 1)) [c] (at_ + 1) 999999 rfl (by simp; omega) (by omega) (by omega) (by rw [show at_ + 1 - at_ = 1 by omega]; exact one) (by simp) (by simp) (by simpa using hD) ⟨c, [], rfl, h48⟩
    have hcn : canon ds := .inr ⟨g7, g6⟩
    have hd48 : ds ≠ [48] := fun z => by
      obtain ⟨a, r, e1, e2⟩ := g7
      rw [z] at e1
      simp at e1
      exact e2 e1.1.symm
    refine ⟨e, ds, ?_, by omega, g3, g4, hcn, g5, fun z => absurd z h48, fun _ => hd48, fun c' hc' => g8 c' hc' [] (.inl rfl), fun _ c' hc' => g8 c' hc' [45] (.inr rfl), fun R => g9 R [] (.inl rfl), fun _ R => g9 R [45] (.inr rfl)⟩
    refine def_rt rfl ?_
    show sSeq _ _ [some (.str s), some (.int at_), none] _ = _
    rw [seq_nx (if_no (h1 := h) (by simp [hlen, atI_nat, hc, h48]))]
    rw [seq_nx (σ1 := [some (.str s), some (.int at_), some (.int at_)]) (h1 := h) (by simp)]
    have hcnd : t_figures_end_0 [some (.str s), some (.int at_), some (.int at_)] h = .ok true h := by
      simp [-List.mem_cons, t_figures_end_0, hlen, hatI, atI_nat, hc, hfm, hD]
    have hb : s_figures_end_0 [some (.str s), some (.int at_), some (.int at_)] h = .nx [some (.str s), some (.int at_), some (.int ((at_ + 1 : Nat) : Int))] h := by simp [s_figures_end_0]
    have wh : whileF t_figures_end_0 s_figures_end_0 (999999 + 1) [some (.str s), some (.int at_), some (.int at_)] h = whileF t_figures_end_0 s_figures_end_0 999999 [some (.str s), some (.int at_), some (.int ((at_ + 1 : Nat) : Int))] h := by
      rw [whileF, hcnd]
      simp only [Res.st_ok, if_true]
      rw [hb]
    rw [seq_nx (show sWhile 1000000 _ _ _ _ = _ from wh.trans g1)]
    simp
/-! ### leaves -/
/-- a value has been read up to the place e, over the rows R -/
structure Rd (s : List Nat) (q : MS) (at_ e : Nat) (v : AV) (q' : MS) : Prop where
  run : mrun q at_ (s.drop at_) = mrun q' e (s.drop e)
  done : Done v q.R q'
  stop : ∀ c, s[e]? = some c → q'.m = .leaf → goesOn q'.w c = false
  lt : at_ < e
  le : e ≤ s.length
theorem mrun_at {s : List Nat} {k c : Nat} {q : MS} (h : s[k]? = some c) : mrun q k (s.drop k) = match step q c with | some q' => mrun q' (k + 1) (s.drop (k + 1)) | none => .inl k := by
  rw [drop_at h]
  rfl
theorem mrun_end {s : List Nat} {k : Nat} {q : MS} (h : s[k]? = none) : mrun q k (s.drop k) = fin q k := by
  rw [List.drop_of_length_le (List.getElem?_eq_none_iff.mp h)]
  rfl
theorem leaf_ok {s : List Nat} {at_ : Nat} (hl : s.length ≤ 100000) (hle : at_ ≤ s.length) {q : MS} (b : Beg q) (hq : q.m = .opn → 1 < q.R.length ∧ s[at_]? ≠ some 41) (h40 : s[at_]? ≠ some 40) (h : AH) :
    (∃ (v : AV) (e : Nat) (q' : MS), m_read_leaf [.str s, .int at_] h = .ok (.tup [v, .int (e : Int)]) h ∧ Rd s q at_ e v q') ∨ (∃ p, m_read_leaf [.str s, .int at_] h = .ex (badX p) h ∧ mrun q at_ (s.drop at_) = .inl p) := by
  have hlen : s.length ≤ 16777216 := by omega
  have first : ∀ t, sSeq (sAsg (eSl (eVar 0) (oAt (eVar 1)) (oAt (eOp2 oAdd (eVar 1) (eC (.int 1))))) (gNm 2)) t [some (.str s), some (.int at_), none, none, none] h = t [some (.str s), some (.int at_), some (.str (cut s (some (at_ : Int)) (some ((at_ : Int) + 1)))), none, none] h := fun t => seq_nx (by simp [hlen])
  cases hc : s[at_]? with
  | none =>
    refine .inr ⟨at_, ?_, ?_⟩
    · refine def_ex (σ1 := [some (.str s), some (.int at_), some (.str []), none, none]) rfl ?_
      show sSeq _ _ [some (.str s), some (.int at_), none, none, none] _ = _
      rw [first, one_end hc]
      rw [seq_nx (if_no (h1 := h) (by simp))]
      rw [seq_nx (if_no (h1 := h) (by simp))]
      refine seq_ex ?_
      rw [if_t (h1 := h) (by simp)]
      simp [badX]
    · rw [mrun_end hc]
      unfold fin
      rw [if_pos]
      rcases b with b | b
      · exact .inr (.inl b)
      · exact .inl (hq b).1
  | some c =>
    have hat := (List.getElem?_eq_some_iff.mp hc).1
    by_cases h39 : c = 39
    · subst h39
      have hm : mrun q at_ (s.drop at_) = mrun ⟨.text, [], q.R⟩ (at_ + 1) (s.drop (at_ + 1)) := by
        rw [mrun_at hc, b.enter (by decide)]
        rfl
      have pre : ∀ x, m_read_text [.str s, .int at_] h = x → ∀ v, x = .ok v h → m_read_leaf [.str s, .int at_] h = .ok v h := by
        intro x hx v hv
        refine def_rt rfl ?_
        show sSeq _ _ [some (.str s), some (.int at_), none, none, none] _ = _
        rw [first, one_at hc]
        refine seq_rt ?_
        rw [if_t (h1 := h) (by simp)]
        refine ret_ok ?_
        simp [hx, hv]
      rcases readtext_ok hl hat h with ⟨p, w', h1, h2, h3, h4⟩ | ⟨p, h3, h4⟩
      · refine .inl ⟨_, p + 1, ⟨.behind, w', push (.str (repC 59 [10] w')) q.R⟩, pre _ h3 _ rfl, ⟨by rw [hm, h4], .inl ⟨rfl, rfl⟩, fun c _ hm => (nomatch hm), by omega, by omega⟩⟩
      · refine .inr ⟨p, ?_, by rw [hm, h4]⟩
        refine def_ex (σ1 := [some (.str s), some (.int at_), some (.str [39]), none, none]) rfl ?_
        show sSeq _ _ [some (.str s), some (.int at_), none, none, none] _ = _
        rw [first, one_at hc]
        refine seq_ex ?_
        rw [if_t (h1 := h) (by simp)]
        simp [h3]
    · by_cases h45 : c = 45
      · subst h45
        have hm : mrun q at_ (s.drop at_) = mrun ⟨.leaf, [45], q.R⟩ (at_ + 1) (s.drop (at_ + 1)) := by
          rw [mrun_at hc, b.enter (by decide)]
          rfl
        have second : ∀ t f, cut s (some ((at_ : Int) + 1)) (some ((at_ : Int) + 2)) = f → sSeq (sAsg (eSl (eVar 0) (oAt (eOp2 oAdd (eVar 1) (eC (.int 1)))) (oAt (eOp2 oAdd (eVar 1) (eC (.int 2))))) (gNm 4)) t [some (.str s), some (.int at_), some (.str [45]), none, none] h = t [some (.str s), some (.int at_), some (.str [45]), none, some (.str f)] h := fun t f hf => seq_nx (by simp [hlen, hf])
        -- nothing follows that goes on
        have none_ok : ∀ f, cut s (some ((at_ : Int) + 1)) (some ((at_ : Int) + 2)) = f → (f = [] ∨ ∃ c', f = [c'] ∧ s[at_ + 1]? = some c' ∧ (c' = 48 ∨ isD c' = false)) → (f = [] → s[at_ + 1]? = none) →
            ∃ (v : AV) (e : Nat) (q' : MS), m_read_leaf [.str s, .int at_] h = .ok (.tup [v, .int (e : Int)]) h ∧ Rd s q at_ e v q' := by
          intro f hf hff hfn
          refine ⟨.non, at_ + 1, ⟨.leaf, [45], q.R⟩, ?_, ⟨hm, .inr ⟨rfl, rfl, rfl⟩, fun c hc' _ => ?_, by omega, by omega⟩⟩
          · refine def_rt rfl ?_
            show sSeq _ _ [some (.str s), some (.int at_), none, none, none] _ = _
            rw [first, one_at hc]
            rw [seq_nx (if_no (h1 := h) (by simp))]
            refine seq_rt ?_
            rw [if_t (h1 := h) (by simp)]
            rw [second _ f hf]
            refine seq_rt ?_
            rw [if_t (h1 := h) (by
              rcases hff with rfl | ⟨c', rfl, _, rfl | hd⟩
              · simp
              · simp
              · have hfm : ¬ (c' ∈ [48, 49, 50, 51, 52, 53, 54, 55, 56, 57]) := fun z => by rw [figs_mem.mp z] at hd; cases hd
                by_cases hc48 : c' = 48
                · subst hc48
                  simp
                · simp [-List.mem_cons, hc48, hfm])]
            exact ret_ok (by simp)
          · rcases hff with rfl | ⟨c', rfl, hc2, rfl | hd⟩
            · rw [hfn rfl] at hc'
              cases hc'
            · rw [hc2] at hc'
              cases hc'
              rfl
            · rw [hc2] at hc'
              cases hc'
              exact goes_no hd
        cases hc1 : s[at_ + 1]? with
        | none =>
          have hf : cut s (some ((at_ : Int) + 1)) (some ((at_ : Int) + 2)) = [] := by
            have := one_end hc1
            rw [show (((at_ + 1 : Nat) : Int)) = (at_ : Int) + 1 by omega, show (at_ : Int) + 1 + 1 = (at_ : Int) + 2 by omega] at this
            exact this
          exact .inl (none_ok [] hf (.inl rfl) fun _ => hc1)
        | some c' =>
          have hf : cut s (some ((at_ : Int) + 1)) (some ((at_ : Int) + 2)) = [c'] := by
            have := one_at hc1
            rw [show (((at_ + 1 : Nat) : Int)) = (at_ : Int) + 1 by omega, show (at_ : Int) + 1 + 1 = (at_ : Int) + 2 by omega] at this
            exact this
          by_cases hgo : isD c' = true ∧ c' ≠ 48
          · obtain ⟨e, ds, g1, g2, g3, g4, g5, g6, g7, g8, g9, g10, g11, g12⟩ := figs_ok hl hc1 hgo.1 h
            have hfm : c' ∈ [48, 49, 50, 51, 52, 53, 54, 55, 56, 57] := figs_mem.mpr hgo.1
            have hds := g8 hgo.2
            have hcd := canon_digs g5
            have hi := intOf_num hcd
            have hcut : cut s (some ((at_ : Int) + 1)) (some (e : Int)) = ds := by
              rw [show (at_ : Int) + 1 = ((at_ + 1 : Nat) : Int) by omega, cut_mid, g4]
            have hl640 : ds.length ≤ 640 := by omega
            have hne : (45 :: ds) ≠ [45] := fun z => (canon_ne g5).2.1 (by simpa using z)
            refine .inl ⟨.int (-((numOf ds : Nat) : Int)), e, ⟨.leaf, 45 :: ds, q.R⟩, ?_, ⟨?_, .inr ⟨rfl, rfl, ?_⟩, fun c hc' _ => g10 hgo.2 c hc', by omega, g3⟩⟩
            · refine def_rt rfl ?_
              show sSeq _ _ [some (.str s), some (.int at_), none, none, none] _ = _
              rw [first, one_at hc]
              rw [seq_nx (if_no (h1 := h) (by simp))]
              refine seq_rt ?_
              rw [if_t (h1 := h) (by simp)]
              rw [second _ [c'] hf]
              rw [seq_nx (if_no (h1 := h) (by simp [-List.mem_cons, hgo.2, hfm]))]
              rw [seq_nx (σ1 := [some (.str s), some (.int at_), some (.str [45]), some (.int e), some (.str [c'])]) (h1 := h) (by
                rw [show ((at_ + 1 : Nat) : Int) = (at_ : Int) + 1 by omega] at g1
                simp [g1])]
              exact ret_ok (by simp [hlen, hcut, hl640, hi])
            · rw [hm, mrun_at hc1]
              have : step ⟨.leaf, [45], q.R⟩ c' = some ⟨.leaf, [45, c'], q.R⟩ := by
                unfold step
                dsimp only
                have : goesOn [45] c' = true := by
                  unfold goesOn
                  rw [hgo.1]
                  simp
                  exact hgo.2
                rw [if_pos this]
                rfl
              rw [this]
              exact g12 hgo.2 q.R
            · unfold leafV
              rw [if_neg hne, intOf_neg hcd]
          · refine .inl (none_ok [c'] hf (.inr ⟨c', rfl, hc1, ?_⟩) fun z => by cases z)
            by_cases z : c' = 48
            · exact .inl z
            · refine .inr ?_
              cases z2 : isD c' with
              | false => rfl
              | true => exact absurd ⟨z2, z⟩ hgo
      · by_cases hD : isD c = true
        · have hcD := isD_iff.mp hD
          have ho : opens c = true := by unfold opens; rw [hD]; simp
          have hm : mrun q at_ (s.drop at_) = mrun ⟨.leaf, [c], q.R⟩ (at_ + 1) (s.drop (at_ + 1)) := by
            rw [mrun_at hc, b.enter ho]
            unfold enter
            rw [if_neg (by omega), if_neg (by omega)]
          obtain ⟨e, ds, g1, g2, g3, g4, g5, g6, g7, g8, g9, g10, g11, g12⟩ := figs_ok hl hc hD h
          have hfm : c ∈ [48, 49, 50, 51, 52, 53, 54, 55, 56, 57] := figs_mem.mpr hD
          have hcd := canon_digs g5
          have hi := intOf_num hcd
          have hcut : cut s (some (at_ : Int)) (some (e : Int)) = ds := by rw [cut_mid, g4]
          have hl640 : ds.length ≤ 640 := by omega
          refine .inl ⟨.int ((numOf ds : Nat) : Int), e, ⟨.leaf, ds, q.R⟩, ?_, ⟨by rw [hm, g11 q.R], .inr ⟨rfl, rfl, ?_⟩, fun c hc' _ => g9 c hc', by omega, g3⟩⟩
          · refine def_rt rfl ?_
            show sSeq _ _ [some (.str s), some (.int at_), none, none, none] _ = _
            rw [first, one_at hc]
            rw [seq_nx (if_no (h1 := h) (by simp [h39]))]
            rw [seq_nx (if_no (h1 := h) (by simp [h45]))]
            rw [seq_nx (if_no (h1 := h) (by simp [-List.mem_cons, hfm]))]
            rw [seq_nx (σ1 := [some (.str s), some (.int at_), some (.str [c]), some (.int e), none]) (h1 := h) (by simp [g1])]
            exact ret_ok (by simp [hlen, hcut, hl640, hi])
          · unfold leafV
            rw [if_neg (canon_ne g5).1, hi]
        · have hD : isD c = false := by simpa using hD
          have hc40 : c ≠ 40 := fun z => h40 (by rw [hc, z])
          have ho : opens c = false := by
            unfold opens
            rw [hD]
            simp [hc40, h39, h45]
          have hfm : ¬ c ∈ [48, 49, 50, 51, 52, 53, 54, 55, 56, 57] := fun z => by rw [figs_mem.mp z] at hD; cases hD
          refine .inr ⟨at_, ?_, ?_⟩
          · refine def_ex (σ1 := [some (.str s), some (.int at_), some (.str [c]), none, none]) rfl ?_
            show sSeq _ _ [some (.str s), some (.int at_), none, none, none] _ = _
            rw [first, one_at hc]
            rw [seq_nx (if_no (h1 := h) (by simp [h39]))]
            rw [seq_nx (if_no (h1 := h) (by simp [h45]))]
            refine seq_ex ?_
            rw [if_t (h1 := h) (by simp [-List.mem_cons, hfm])]
            simp [badX]
          · rw [mrun_at hc]
            have : step q c = none := by
              unfold step
              rcases b with b | b
              · rw [b]
                simp [ho]
              · have h41 : c ≠ 41 := fun z => (hq b).2 (by rw [hc, z])
                rw [b]
                simp [ho, h41]
            rw [this]
end Lk94

end

section
set_option maxHeartbeats 4000000
namespace Mi
theorem while_f {c : T} {b : S} {f : Nat} {σ : AS} {h h1 : AH} (e : c σ h = .ok false h1) : whileF c b (f + 1) σ h = .nx σ h1 := by
  rw [whileF, e]
  rfl
theorem while_nx {c : T} {b : S} {f : Nat} {σ σ2 : AS} {h h1 h2 : AH} (e : c σ h = .ok true h1) (e2 : b σ h1 = .nx σ2 h2) : whileF c b (f + 1) σ h = whileF c b f σ2 h2 := by
  rw [whileF, e]
  simp only [Res.st_ok, if_true]
  rw [e2]
theorem while_rt {c : T} {b : S} {f : Nat} {σ : AS} {h h1 h2 : AH} {v : AV} (e : c σ h = .ok true h1) (e2 : b σ h1 = .rt v h2) : whileF c b (f + 1) σ h = .rt v h2 := by
  rw [whileF, e]
  simp only [Res.st_ok, if_true]
  rw [e2]
theorem while_ex {c : T} {b : S} {f : Nat} {σ σ2 : AS} {h h1 h2 : AH} {x : AX} (e : c σ h = .ok true h1) (e2 : b σ h1 = .ex x σ2 h2) : whileF c b (f + 1) σ h = .ex x σ2 h2 := by
  rw [whileF, e]
  simp only [Res.st_ok, if_true]
  rw [e2]
end Mi
namespace Lk94
open Mi MiL Cd
/-! ### tuples are closed -/
theorem Done.rows {v : AV} {R : List (List AV)} {q : MS} (d : Done v R q) : q.R.length = R.length := by
  rcases d with ⟨_, h⟩ | ⟨_, h, _⟩
  · rw [h, push_len]
  · rw [h]
theorem Done.stuck {v : AV} {R : List (List AV)} {q : MS} {c : Nat} (d : Done v R q) (st : q.m = .leaf → goesOn q.w c = false) (hc : R.length ≤ 1 ∨ (c ≠ 32 ∧ c ≠ 41)) : Cd.step q c = none := by
  have hs : ∀ (w : List Nat) (R' : List (List AV)), R'.length = R.length → shut w R' c = none := by
    intro w R' h
    unfold shut
    rcases hc with hc | ⟨h1, h2⟩
    · rw [if_neg (by omega)]
    · by_cases z : 1 < R'.length
      · rw [if_pos z, if_neg h1, if_neg h2]
      · rw [if_neg z]
  unfold Cd.step
  rcases d with ⟨h1, h2⟩ | ⟨h1, h2, h3⟩
  · rw [h1]
    dsimp only
    exact hs _ _ (by rw [h2, push_len])
  · rw [h1]
    dsimp only
    rw [st h1]
    simp only [Bool.false_eq_true, if_false]
    exact hs _ _ (by rw [push_len, h2])
theorem Done.fin_bad {v : AV} {R : List (List AV)} {q : MS} (d : Done v R q) (hR : 1 < R.length) (n : Nat) : Cd.fin q n = .inl n := by
  unfold Cd.fin
  rw [if_pos (.inl (by rw [Done.rows d]; exact hR))]
def CF (s : List Nat) (e n : Nat) (v : AV) (o : Option AV) : AS := [some (.str s), some (.int (e : Int)), some (.cel n), some v, o]
theorem closed_loop {s : List Nat} (hl : s.length ≤ 100000) {h0 : AH} {r : Nat} {k : Nat} (hk : k < 1000000) : ∀ (R : List (List AV)) (v : AV) (e fuel : Nat) (q : MS) (u : AH) (o : Option AV), R.length < fuel → e ≤ s.length → Done v (R ++ [[]]) q → (∀ c, s[e]? = some c → q.m = .leaf → goesOn q.w c = false) → Stk h0.length u r R → Few k R →
    (∃ (e' : Nat) (u' : AH) (R' : List (List AV)) (w : List Nat), whileF t_closed_tuples_0 s_closed_tuples_0 fuel (CF s e (h0.length + r) v o) (h0 ++ u) = .rt (.tup [.non, .int (e' : Int), .bl false]) (h0 ++ u') ∧ Stk h0.length u' r R' ∧ R'.length ≤ R.length ∧ Few (k + 1) R' ∧ mrun q e (s.drop e) = mrun ⟨.value, w, R' ++ [[]]⟩ e' (s.drop e') ∧ e < e' ∧ e' ≤ s.length) ∨
    (∃ (e' : Nat) (u' : AH) (v' : AV) (q' : MS) (o' : Option AV), whileF t_closed_tuples_0 s_closed_tuples_0 fuel (CF s e (h0.length + r) v o) (h0 ++ u) = .nx (CF s e' (h0.length + r) v' o') (h0 ++ u') ∧ mrun q e (s.drop e) = mrun q' e' (s.drop e') ∧ Done v' [[]] q' ∧ (∀ c, s[e']? = some c → q'.m = .leaf → goesOn q'.w c = false) ∧ e' ≤ s.length) ∨
    (∃ (e' : Nat) (u' : AH) (σ' : AS), whileF t_closed_tuples_0 s_closed_tuples_0 fuel (CF s e (h0.length + r) v o) (h0 ++ u) = .ex (badX e') σ' (h0 ++ u') ∧ mrun q e (s.drop e) = .inl e')
  | _, _, _, 0, _, _, _, hf, _, _, _, _, _ => by omega
  | [], v, e, f + 1, q, u, o, hf, he, d, st, S, _ => by
    refine .inr (.inl ⟨e, u, v, q, o, while_f ?_, rfl, d, st, he⟩)
    show tB _ _ _ = _
    simp [CF, S.len]
  | T :: R, v, e, f + 1, q, u, o, hf, he, d, st, S, F => by
    have hlen : s.length ≤ 16777216 := by omega
    have hc : t_closed_tuples_0 (CF s e (h0.length + r) v o) (h0 ++ u) = .ok true (h0 ++ u) := by
      have hz : (0 : Int) < ((T :: R).length : Int) := by simp only [List.length_cons]; omega
      show tB _ _ _ = _
      simp only [z_tB, z_eOp2, z_eCall, z_aCons, z_eVar, z_aNil, CF, List.getElem?_cons_succ, List.getElem?_cons_zero, Res.bind_ok, S.len, z_eC]
      simp [hz]
    have hT : T.length ≤ k := F T (by simp)
    obtain ⟨u1, e1, S1⟩ := app_top S (σ := CF s e (h0.length + r) v o) (i := 2) (e := eVar 3) (v := v) rfl (by simp [CF]) (by omega)
    have hsl : ∀ t, sSeq (sAsg (eSl (eVar 0) (oAt (eVar 1)) (oAt (eOp2 oAdd (eVar 1) (eC (.int 1))))) (gNm 4)) t (CF s e (h0.length + r) v o) (h0 ++ u1) = t (CF s e (h0.length + r) v (some (.str (cut s (some (e : Int)) (some ((e : Int) + 1)))))) (h0 ++ u1) := fun t => seq_nx (by simp [CF, hlen])
    have hR1 : 1 < (T :: R ++ [[]]).length := by simp
    have F1 : Few (k + 1) ((T ++ [v]) :: R) := few_push (R := T :: R) F
    cases hs : s[e]? with
    | none =>
      refine .inr (.inr ⟨e, u1, CF s e (h0.length + r) v (some (.str [])), while_ex hc ?_, ?_⟩)
      · show sSeq _ _ _ _ = _
        rw [seq_nx e1, hsl, one_end hs]
        rw [seq_nx (if_no (h1 := h0 ++ u1) (by simp [CF]))]
        refine seq_ex ?_
        rw [if_t (h1 := h0 ++ u1) (by simp [CF])]
        simp [CF, badX]
      · rw [mrun_end hs]
        exact Done.fin_bad d hR1 e
    | some c =>
      have hel := (List.getElem?_eq_some_iff.mp hs).1
      by_cases h32 : c = 32
      · subst h32
        refine .inl ⟨e + 1, u1, (T ++ [v]) :: R, q.w, while_rt hc ?_, S1, by simp, F1, ?_, by omega, by omega⟩
        · show sSeq _ _ _ _ = _
          rw [seq_nx e1, hsl, one_at hs]
          refine seq_rt ?_
          rw [if_t (h1 := h0 ++ u1) (by simp [CF])]
          exact ret_ok (by simp [CF])
        · rw [mrun_at hs, d.step hR1 (.inl rfl)]
          rfl
      · by_cases h41 : c = 41
        · subst h41
          obtain ⟨u2, e2, S2⟩ := pop_tup S1 (σ := CF s e (h0.length + r) v (some (.str [41]))) (i := 2) rfl
          have hb : s_closed_tuples_0 (CF s e (h0.length + r) v o) (h0 ++ u) = .nx (CF s (e + 1) (h0.length + r) (.tup (T ++ [v])) (some (.str [41]))) (h0 ++ u2) := by
            show sSeq _ _ _ _ = _
            rw [seq_nx e1, hsl, one_at hs]
            rw [seq_nx (if_no (h1 := h0 ++ u1) (by simp [CF]))]
            rw [seq_nx (if_no (h1 := h0 ++ u1) (by simp [CF]))]
            rw [seq_nx (σ1 := CF s e (h0.length + r) (.tup (T ++ [v])) (some (.str [41]))) (h1 := h0 ++ u2) (by
              rw [z_sAsg, e2]
              rfl)]
            simp [CF]
          rw [while_nx hc hb]
          have hst := d.step hR1 (c := 41) (.inr rfl)
          have hd : Done (.tup (T ++ [v])) (R ++ [[]]) ⟨.behind, q.w, popT (push v (T :: R ++ [[]]))⟩ := .inl ⟨rfl, rfl⟩
          have hm : mrun q e (s.drop e) = mrun ⟨.behind, q.w, popT (push v (T :: R ++ [[]]))⟩ (e + 1) (s.drop (e + 1)) := by
            rw [mrun_at hs, hst]
            rfl
          rw [hm]
          rcases closed_loop hl hk R (.tup (T ++ [v])) (e + 1) f ⟨.behind, q.w, popT (push v (T :: R ++ [[]]))⟩ u2 (some (.str [41])) (by simp only [List.length_cons] at hf; omega) (by omega) hd (fun _ _ z => nomatch z) S2 (fun T hT => F T (List.mem_cons_of_mem _ hT)) with ⟨e', u', R', w, a1, a2, a3, a4, a5, a6, a7⟩ | ⟨e', u', v', q', o', a1, a2, a3, a4, a5⟩ | ⟨e', u', σ', a1, a2⟩
          · exact .inl ⟨e', u', R', w, a1, a2, by simp only [List.length_cons]; omega, a4, a5, by omega, a7⟩
          · exact .inr (.inl ⟨e', u', v', q', o', a1, a2, a3, a4, a5⟩)
          · exact .inr (.inr ⟨e', u', σ', a1, a2⟩)
        · refine .inr (.inr ⟨e, u1, CF s e (h0.length + r) v (some (.str [c])), while_ex hc ?_, ?_⟩)
          · show sSeq _ _ _ _ = _
            rw [seq_nx e1, hsl, one_at hs]
            rw [seq_nx (if_no (h1 := h0 ++ u1) (by simp [CF, h32]))]
            refine seq_ex ?_
            rw [if_t (h1 := h0 ++ u1) (by simp [CF, h41])]
            simp [CF, badX]
          · rw [mrun_at hs, Done.stuck d (fun z => st c hs z) (.inr ⟨h32, h41⟩)]
theorem closed_ok {s : List Nat} (hl : s.length ≤ 100000) {h0 : AH} {r : Nat} {k : Nat} (hk : k < 1000000) {R : List (List AV)} {v : AV} {e : Nat} {q : MS} {u : AH} (hR : R.length < 1000000) (he : e ≤ s.length) (d : Done v (R ++ [[]]) q) (st : ∀ c, s[e]? = some c → q.m = .leaf → goesOn q.w c = false) (S : Stk h0.length u r R) (F : Few k R) :
    (∃ (e' : Nat) (u' : AH) (R' : List (List AV)) (w : List Nat), m_closed_tuples [.str s, .int (e : Int), .cel (h0.length + r), v] (h0 ++ u) = .ok (.tup [.non, .int (e' : Int), .bl false]) (h0 ++ u') ∧ Stk h0.length u' r R' ∧ R'.length ≤ R.length ∧ Few (k + 1) R' ∧ mrun q e (s.drop e) = mrun ⟨.value, w, R' ++ [[]]⟩ e' (s.drop e') ∧ e < e' ∧ e' ≤ s.length) ∨
    (∃ (e' : Nat) (u' : AH) (v' : AV), m_closed_tuples [.str s, .int (e : Int), .cel (h0.length + r), v] (h0 ++ u) = .ok (.tup [v', .int (e' : Int), .bl true]) (h0 ++ u') ∧ mrun q e (s.drop e) = .inr v') ∨
    (∃ (e' : Nat) (u' : AH), m_closed_tuples [.str s, .int (e : Int), .cel (h0.length + r), v] (h0 ++ u) = .ex (badX e') (h0 ++ u') ∧ mrun q e (s.drop e) = .inl e') := by
  have hlen : s.length ≤ 16777216 := by omega
  rcases closed_loop hl hk R v e 1000000 q u none hR he d st S F with ⟨e', u', R', w, a1, a2, a3, a4, a5, a6, a7⟩ | ⟨e', u', v', q', o', a1, a2, a3, a4, a5⟩ | ⟨e', u', σ', a1, a2⟩
  · exact .inl ⟨e', u', R', w, def_rt rfl (seq_rt a1), a2, a3, a4, a5, a6, a7⟩
  · by_cases hend : e' = s.length
    · refine .inr (.inl ⟨e', u', v', ?_, ?_⟩)
      · refine def_rt rfl ?_
        show sSeq _ _ (CF s e (h0.length + r) v none) _ = _
        rw [seq_nx (show sWhile 1000000 _ _ _ _ = _ from a1)]
        rw [seq_nx (if_no (h1 := h0 ++ u') (by simp [CF, hlen, hend]))]
        exact ret_ok (by simp [CF])
      · rw [a2, mrun_end (by rw [hend]; exact List.getElem?_eq_none (Nat.le_refl _))]
        exact a3.fin _
    · refine .inr (.inr ⟨e', u', ?_, ?_⟩)
      · refine def_ex (σ1 := CF s e' (h0.length + r) v' o') rfl ?_
        show sSeq _ _ (CF s e (h0.length + r) v none) _ = _
        rw [seq_nx (show sWhile 1000000 _ _ _ _ = _ from a1)]
        refine seq_ex ?_
        rw [if_t (h1 := h0 ++ u') (by
          have : ¬ (e' : Int) = s.length := by omega
          simp [CF, hlen, this])]
        simp [CF, badX]
      · cases hs : s[e']? with
        | none =>
          have := List.getElem?_eq_none_iff.mp hs
          omega
        | some c => rw [a2, mrun_at hs, Done.stuck a3 (fun z => a4 c hs z) (.inl (by simp))]
  · exact .inr (.inr ⟨e', u', def_ex rfl (seq_ex a1), a2⟩)
end Lk94

end

section
set_option maxHeartbeats 4000000
namespace Lk94
open Mi MiL Cd
/-! ### read_value -/
def resR (h : AH) (x : Sum Nat AV) (y : Res AV) : Prop := ∃ u, match x with
  | .inr v => y = .ok v (h ++ u)
  | .inl n => y = .ex (badX n) (h ++ u)
def VF (s : List Nat) (n e : Nat) (o3 o4 : Option AV) : AS := [some (.str s), some (.cel n), some (.int (e : Int)), o3, o4]
theorem two_at {s : List Nat} {k : Nat} : cut s (some (k : Int)) (some ((k : Int) + 2)) = (s.drop k).take 2 := by
  rw [show (k : Int) + 2 = ((k + 2 : Nat) : Int) by omega, cut_mid, show k + 2 - k = 2 by omega]
theorem next_at {s : List Nat} {k : Nat} : cut s (some ((k : Int) + 1)) (some ((k : Int) + 2)) = (s.drop (k + 1)).take 1 := by
  rw [show (k : Int) + 1 = ((k + 1 : Nat) : Int) by omega, show (k : Int) + 2 = ((k + 2 : Nat) : Int) by omega, cut_mid, show k + 2 - (k + 1) = 1 by omega]
theorem take1_none {s : List Nat} {k : Nat} (h : s[k]? = none) : (s.drop k).take 1 = [] := by
  rw [List.drop_of_length_le (List.getElem?_eq_none_iff.mp h)]
  rfl
theorem take1_some {s : List Nat} {k c : Nat} (h : s[k]? = some c) : (s.drop k).take 1 = [c] := by
  rw [drop_at h]
  rfl
theorem read_loop {s : List Nat} (hl : s.length ≤ 100000) {h : AH} : ∀ (fuel at_ : Nat) (q : MS) (R : List (List AV)) (u : AH) (o3 o4 : Option AV), s.length - at_ < fuel → at_ ≤ s.length → Beg q → q.R = R ++ [[]] → (q.m = .opn → 1 < q.R.length ∧ s[at_]? ≠ some 41) → Stk h.length u 0 R → R.length ≤ at_ → Few at_ R →
    ∃ u' : AH, match mrun q at_ (s.drop at_) with
      | .inr v => whileF t_read_value_0 s_read_value_0 fuel (VF s h.length at_ o3 o4) (h ++ u) = .rt v (h ++ u')
      | .inl n => ∃ σ', whileF t_read_value_0 s_read_value_0 fuel (VF s h.length at_ o3 o4) (h ++ u) = .ex (badX n) σ' (h ++ u')
  | 0, _, _, _, _, _, _, hf, _, _, _, _, _, _, _ => by omega
  | f + 1, at_, q, R, u, o3, o4, hf, hat, b, hq, ho, S, hR, F => by
    have hlen : s.length ≤ 16777216 := by omega
    have hc : t_read_value_0 (VF s h.length at_ o3 o4) (h ++ u) = .ok true (h ++ u) := rfl
    -- the else branch, once a value stands
    have rest : ∀ (v : AV) (e : Nat) (q1 : MS) (hd : Rd s q at_ e v q1),
        (∀ t, s_read_value_0 (VF s h.length at_ o3 o4) (h ++ u) = t → (sSeq (sAsg (eCall m_closed_tuples (aCons (eVar 0) (aCons (eVar 2) (aCons (eVar 1) (aCons (eVar 3) (aNil)))))) (gTp [gNm 3, gNm 2, gNm 4])) (sIf (tB (eVar 4)) (sRet (eVar 3)) (sNx))) (VF s h.length e (some v) o4) (h ++ u) = t) →
        ∃ u' : AH, match mrun q at_ (s.drop at_) with
      | .inr v => whileF t_read_value_0 s_read_value_0 (f + 1) (VF s h.length at_ o3 o4) (h ++ u) = .rt v (h ++ u')
      | .inl n => ∃ σ', whileF t_read_value_0 s_read_value_0 (f + 1) (VF s h.length at_ o3 o4) (h ++ u) = .ex (badX n) σ' (h ++ u') := by
      intro v e q1 hd hs
      have hs := (hs _ rfl).symm
      have hdn : Done v (R ++ [[]]) q1 := by rw [← hq]; exact hd.done
      have call : ∀ x, m_closed_tuples [.str s, .int (e : Int), .cel (h.length + 0), v] (h ++ u) = x → (eCall m_closed_tuples (aCons (eVar 0) (aCons (eVar 2) (aCons (eVar 1) (aCons (eVar 3) (aNil)))))) (VF s h.length e (some v) o4) (h ++ u) = x := fun x hx => hx
      rw [hd.run]
      rcases closed_ok hl (k := at_) (by omega) (by omega) hd.le hdn hd.stop S F with ⟨e', u', R', w, a1, a2, a3, a4, a5, a6, a7⟩ | ⟨e', u', v', a1, a2⟩ | ⟨e', u', a1, a2⟩
      · have hb : s_read_value_0 (VF s h.length at_ o3 o4) (h ++ u) = .nx (VF s h.length e' (some .non) (some (.bl false))) (h ++ u') := by
          rw [hs]
          rw [seq_nx (σ1 := VF s h.length e' (some .non) (some (.bl false))) (h1 := h ++ u') (by
            rw [z_sAsg, call _ a1]
            rfl)]
          exact if_no (h1 := h ++ u') rfl
        have hlt := hd.lt
        obtain ⟨u2, ih⟩ := read_loop hl (h := h) f e' ⟨.value, w, R' ++ [[]]⟩ R' u' (some .non) (some (.bl false)) (by omega) a7 (.inl rfl) rfl (fun z => nomatch z) a2 (by omega) (a4.mono (by omega))
        refine ⟨u2, ?_⟩
        rw [while_nx hc hb, a5]
        exact ih
      · refine ⟨u', ?_⟩
        rw [a2]
        dsimp only
        refine while_rt hc ?_
        rw [hs]
        rw [seq_nx (σ1 := VF s h.length e' (some v') (some (.bl true))) (h1 := h ++ u') (by
          rw [z_sAsg, call _ a1]
          rfl)]
        rw [if_t (h1 := h ++ u') rfl]
        exact ret_ok rfl
      · refine ⟨u', ?_⟩
        rw [a2]
        dsimp only
        refine ⟨VF s h.length e (some v) o4, while_ex hc ?_⟩
        rw [hs]
        refine seq_ex ?_
        rw [z_sAsg, call _ a1]
        rfl
    by_cases h40 : s[at_]? = some 40
    · have hel := (List.getElem?_eq_some_iff.mp h40).1
      have hst : Cd.step q 40 = some ⟨.opn, [], [] :: q.R⟩ := b.enter (by decide)
      by_cases h41 : s[at_ + 1]? = some 41
      · -- ()
        have hnx : (s.drop (at_ + 1)).take 1 = [41] := take1_some h41
        have hel2 := (List.getElem?_eq_some_iff.mp h41).1
        have hr : Rd s q at_ (at_ + 2) (.tup []) ⟨.behind, [], push (.tup []) q.R⟩ := by
          refine ⟨?_, .inl ⟨rfl, rfl⟩, fun _ _ z => (nomatch z), by omega, by omega⟩
          rw [mrun_at h40, hst]
          dsimp only
          rw [mrun_at h41]
          rfl
        refine rest (.tup []) (at_ + 2) _ hr fun t ht => ?_
        rw [← ht]
        symm
        show sIf _ _ _ _ _ = _
        rw [if_f (h1 := h ++ u) (by simp [VF, hlen, one_at h40, next_at, hnx])]
        have htw : (s.drop at_).take 2 = [40, 41] := by rw [drop_at h40, drop_at h41]; rfl
        rw [seq_nx (σ1 := VF s h.length (at_ + 2) (some (.tup [])) o4) (h1 := h ++ u) (by
          rw [if_t (h1 := h ++ u) (by simp [VF, hlen, two_at, htw])]
          simp [VF])]
      · -- a tuple is opened
        have hnx : ((s.drop (at_ + 1)).take 1 == [41]) = false := by
          cases z : s[at_ + 1]? with
          | none => rw [take1_none z]; rfl
          | some c =>
            rw [take1_some z]
            have : c ≠ 41 := fun w => h41 (by rw [z, w])
            simpa using this
        obtain ⟨u1, e1, S1⟩ := push_new S (σ := VF s h.length at_ o3 o4) (i := 1) rfl (by omega)
        have hb : s_read_value_0 (VF s h.length at_ o3 o4) (h ++ u) = .nx (VF s h.length (at_ + 1) o3 o4) (h ++ u1) := by
          show sIf _ _ _ _ _ = _
          rw [if_t (h1 := h ++ u) (by
            have : (s.drop (at_ + 1)).take 1 ≠ [41] := by simpa using hnx
            simp [VF, hlen, one_at h40, next_at, this])]
          rw [seq_nx e1]
          simp [VF]
        obtain ⟨u2, ih⟩ := read_loop hl (h := h) f (at_ + 1) ⟨.opn, [], [] :: q.R⟩ ([] :: R) u1 o3 o4 (by omega) (by omega) (.inr rfl) (by rw [hq]; rfl) (fun _ => ⟨by simp [hq], h41⟩) S1 (by simp only [List.length_cons]; omega) (fun T hT => by
          rcases List.mem_cons.mp hT with rfl | hT
          · simp
          · have := F T hT
            omega)
        refine ⟨u2, ?_⟩
        rw [while_nx hc hb, mrun_at h40, hst]
        exact ih
    · -- a leaf
      have h1 : cut s (some (at_ : Int)) (some ((at_ : Int) + 1)) ≠ [40] := by
        cases z : s[at_]? with
        | none => rw [one_end z]; simp
        | some c =>
          rw [one_at z]
          have : c ≠ 40 := fun w => h40 (by rw [z, w])
          simpa using this
      have h2 : (s.drop at_).take 2 ≠ [40, 41] := by
        cases z : s[at_]? with
        | none =>
          rw [List.drop_of_length_le (List.getElem?_eq_none_iff.mp z)]
          simp
        | some c =>
          rw [drop_at z]
          have : c ≠ 40 := fun w => h40 (by rw [z, w])
          intro y
          simp at y
          exact this y.1
      have pre : s_read_value_0 (VF s h.length at_ o3 o4) (h ++ u) = (sSeq (sAsg (eCall m_read_leaf (aCons (eVar 0) (aCons (eVar 2) (aNil)))) (gTp [gNm 3, gNm 2])) (sSeq (sAsg (eCall m_closed_tuples (aCons (eVar 0) (aCons (eVar 2) (aCons (eVar 1) (aCons (eVar 3) (aNil)))))) (gTp [gNm 3, gNm 2, gNm 4])) (sIf (tB (eVar 4)) (sRet (eVar 3)) (sNx)))) (VF s h.length at_ o3 o4) (h ++ u) := by
        show sIf _ _ _ _ _ = _
        rw [if_f (h1 := h ++ u) (by simp [VF, hlen, h1])]
        unfold sSeq
        rw [if_f (h1 := h ++ u) (by simp [VF, hlen, two_at, h2])]
      have call : ∀ x, m_read_leaf [.str s, .int (at_ : Int)] (h ++ u) = x → (eCall m_read_leaf (aCons (eVar 0) (aCons (eVar 2) (aNil)))) (VF s h.length at_ o3 o4) (h ++ u) = x := fun x hx => hx
      rcases leaf_ok hl hat b ho h40 (h ++ u) with ⟨v, e, q', a1, a2⟩ | ⟨p, a1, a2⟩
      · refine rest v e q' a2 fun t ht => ?_
        rw [← ht, pre]
        symm
        rw [seq_nx (σ1 := VF s h.length e (some v) o4) (h1 := h ++ u) (by
          rw [z_sAsg, call _ a1]
          rfl)]
      · refine ⟨u, ?_⟩
        rw [a2]
        dsimp only
        refine ⟨VF s h.length at_ o3 o4, while_ex hc ?_⟩
        rw [pre]
        refine seq_ex ?_
        rw [z_sAsg, call _ a1]
        rfl
theorem readvalue_ok {s : List Nat} (hl : s.length ≤ 100000) (h : AH) : resR h (P s) (m_read_value [.str s] h) := by
  obtain ⟨u, e⟩ := read_loop hl (h := h) 1000000 0 ⟨.value, [], [[]]⟩ [] [.lst []] none none (by omega) (by omega) (.inl rfl) rfl (fun z => nomatch z) (stk_nil _) (by simp) (fun _ hT => nomatch hT)
  have hB : (([] : List AV).length ≤ LINE) := by simp
  have pre : ∀ t, (sSeq (sAsg (eLstC (aNil)) (gNm 1)) (sSeq (sAsg (eC (.int 0)) (gNm 2)) t)) [some (.str s), none, none, none, none] h = t (VF s h.length 0 none none) (h ++ [.lst []]) := by
    intro t
    rw [seq_nx (σ1 := [some (.str s), some (.cel h.length), none, none, none]) (h1 := h ++ [.lst []]) (by simp)]
    rw [seq_nx (σ1 := VF s h.length 0 none none) (h1 := h ++ [.lst []]) (by simp [VF])]
  refine ⟨u, ?_⟩
  have hP : P s = mrun ⟨.value, [], [[]]⟩ 0 (s.drop 0) := rfl
  rw [hP]
  cases z : mrun ⟨.value, [], [[]]⟩ 0 (s.drop 0) with
  | inr v =>
    rw [z] at e
    dsimp only at e ⊢
    refine def_rt rfl ?_
    show sSeq _ _ [some (.str s), none, none, none, none] _ = _
    rw [pre]
    exact e
  | inl n =>
    rw [z] at e
    dsimp only at e ⊢
    obtain ⟨σ', e⟩ := e
    refine def_ex (σ1 := σ') rfl ?_
    show sSeq _ _ [some (.str s), none, none, none, none] _ = _
    rw [pre]
    exact e
end Lk94

end

section
set_option maxHeartbeats 4000000
namespace Lk94
open Mi MiL Cd
/-! ### write_leaf -/
def isLeaf : AV → Bool
  | .non => true
  | .int _ => true
  | .str _ => true
  | _ => false
theorem bX0 : (⟨"BadValue", ["at"], [.int 0]⟩ : AX) = badX 0 := rfl
theorem text_signs {s0 : List Nat} {h : AH} : ∀ (s : List Nat) (o : Option AV), (s.all okc = true ∧ ∃ o', forL (gNm 1) s_write_text_0 (s.map fun c => .str [c]) [some (.str s0), o] h = .nx [some (.str s0), o'] h) ∨ (s.all okc = false ∧ ∃ σ', forL (gNm 1) s_write_text_0 (s.map fun c => .str [c]) [some (.str s0), o] h = .ex (badX 0) σ' h)
  | [], o => .inl ⟨rfl, o, rfl⟩
  | c :: s, o => by
    have hb : okc c = true → s_write_text_0 [some (.str s0), some (.str [c])] h = .nx [some (.str s0), some (.str [c])] h := by
      intro hc
      refine if_no ?_
      unfold okc at hc
      by_cases h10 : c = 10
      · simp [h10]
      · have hs : sgn c = true := by simpa [h10] using hc
        simp [h10, sign_ok, hs]
    have hx : okc c = false → s_write_text_0 [some (.str s0), some (.str [c])] h = .ex (badX 0) [some (.str s0), some (.str [c])] h := by
      intro hc
      unfold okc at hc
      simp only [Bool.or_eq_false_iff, beq_eq_false_iff_ne] at hc
      show sIf _ _ _ _ _ = _
      rw [if_t (h1 := h) (by simp [hc.2, sign_ok, hc.1])]
      simp [badX]
    cases z : okc c with
    | true =>
      have e : forL (gNm 1) s_write_text_0 ((c :: s).map fun c => .str [c]) [some (.str s0), o] h = forL (gNm 1) s_write_text_0 (s.map fun c => .str [c]) [some (.str s0), some (.str [c])] h := by
        rw [List.map_cons]
        rw [forL]
        simp only [z_gNm, List.set_cons_succ, List.set_cons_zero]
        rw [hb z]
      rw [e]
      rcases text_signs s (some (.str [c])) (s0 := s0) (h := h) with ⟨h1, o', h2⟩ | ⟨h1, σ', h2⟩
      · exact .inl ⟨by simp [z, h1], o', h2⟩
      · exact .inr ⟨by simp [z, h1], σ', h2⟩
    | false =>
      refine .inr ⟨by simp [z], [some (.str s0), some (.str [c])], ?_⟩
      rw [List.map_cons]
      rw [forL]
      simp only [z_gNm, List.set_cons_succ, List.set_cons_zero]
      rw [hx z]
theorem repC_semi (s : List Nat) : repC 10 [59] s = s.map semi := by
  induction s with
  | nil => rfl
  | cons c s ih =>
    show (if c = 10 then [59] else [c]) ++ repC 10 [59] s = _
    rw [ih]
    unfold semi
    by_cases h : c = 10 <;> simp [h, semi]
theorem writetext_ok {s : List Nat} (hl : s.length ≤ 1000000) (h : AH) : m_write_text [.str s] h = if s.all okc = true then .ok (.str (39 :: (s.map semi ++ [39]))) h else .ex (badX 0) h := by
  rcases text_signs (s0 := s) (h := h) s none with ⟨h1, o', h2⟩ | ⟨h1, σ', h2⟩
  · rw [if_pos h1]
    refine def_rt rfl ?_
    show sSeq _ _ [some (.str s), none] _ = _
    rw [seq_nx (for_seq (by simp) h2)]
    have a1 : s.length + (s.length + 1) ≤ 16777216 := by omega
    have a2 : 1 + s.length ≤ 16777216 := by omega
    have a3 : 1 + s.length + 1 ≤ 16777216 := by omega
    have a4 : s.length ≤ 16777214 := by omega
    exact ret_ok (by simp [repC_semi, a1, a2, a3, a4])
  · rw [if_neg (by rw [h1]; decide)]
    refine def_ex (σ1 := σ') rfl ?_
    show sSeq _ _ [some (.str s), none] _ = _
    exact seq_ex (for_seq (by simp) h2)
theorem log30 {n : Nat} (h : n < 10 ^ 30) : n.log2 < 1920 := by
  have h2 : (10 : Nat) ^ 30 < 2 ^ 1920 := by decide +kernel
  by_cases z : n = 0
  · subst z
    decide
  · exact (Nat.log2_lt z).mpr (Nat.lt_trans h h2)
def leafLen : AV → Nat
  | .str s => s.length
  | _ => 0
theorem writeleaf_ok {v : AV} (hv : isLeaf v = true) (hl : leafLen v ≤ 1000000) (h : AH) : m_write_leaf [v] h = if good v = true then .ok (.str (W v)) h else .ex (badX 0) h := by
  cases v with
  | non => rfl
  | str s =>
    have hw := writetext_ok (s := s) hl h
    have e : m_write_leaf [.str s] h = m_write_text [.str s] h := by
      show mDef 1 2 _ _ _ = _
      have e0 : ∀ t, sSeq (sIf (tB (eOp1 (oIsN) (eVar 0))) (sRet (eC (.str [45]))) (sNx)) t [some (.str s), none] h = t [some (.str s), none] h := fun t => seq_nx (if_no (h1 := h) (by simp [AV.isN]))
      by_cases z : s.all okc = true
      · rw [if_pos z] at hw
        rw [hw]
        refine def_rt rfl ?_
        show sSeq _ _ [some (.str s), none] _ = _
        rw [e0]
        refine seq_rt ?_
        rw [if_t (h1 := h) (by simp [isTy])]
        exact ret_ok (by simp [hw])
      · rw [if_neg z] at hw
        rw [hw]
        refine def_ex (σ1 := [some (.str s), none]) rfl ?_
        show sSeq _ _ [some (.str s), none] _ = _
        rw [e0]
        refine seq_ex ?_
        rw [if_t (h1 := h) (by simp [isTy])]
        simp [hw]
    rw [e, hw, W, good]
  | int i =>
    have e0 : ∀ t u, sSeq (sIf (tB (eOp1 (oIsN) (eVar 0))) (sRet (eC (.str [45]))) (sNx)) (sSeq (sIf (tB (eOp1 (oIsTy "str") (eVar 0))) u (sNx)) (sSeq (sAsg (eOp2 oPow (eC (.int 10)) (eC (.int 30))) (gNm 1)) t)) [some (.int i), none] h = t [some (.int i), some (.int (10 ^ 30))] h := fun t u => by
      rw [seq_nx (if_no (h1 := h) (by simp [AV.isN]))]
      rw [seq_nx (if_no (h1 := h) (by simp [isTy]))]
      rw [seq_nx (σ1 := [some (.int i), some (.int (10 ^ 30))]) (h1 := h) (by simp)]
    have hp : ((10 : Int) ^ 30) = ((10 ^ 30 : Nat) : Int) := by decide
    by_cases z : i.natAbs < 10 ^ 30
    · have h1 : (0 : Int) - 10 ^ 30 < i := by rw [hp]; omega
      have h2 : i < (10 : Int) ^ 30 := by rw [hp]; omega
      have hg : good (.int i) = true := by simp [good, z]
      rw [if_pos hg, W]
      refine def_rt rfl ?_
      show sSeq _ _ [some (.int i), none] _ = _
      rw [e0]
      rw [seq_nx (if_no (h1 := h) (by
        simp only [z_tNot, z_tB, z_eChain, z_eOp2, z_eC, z_eVar, List.getElem?_cons_zero, List.getElem?_cons_succ, Res.bind_ok, z_subI, z_ltI, decide_eq_true h1, decide_eq_true h2]
        rfl))]
      exact ret_ok (by simp [log30 z])
    · have hg : good (.int i) = false := by simp [good]; omega
      rw [if_neg (by rw [hg]; decide)]
      refine def_ex (σ1 := [some (.int i), some (.int (10 ^ 30))]) rfl ?_
      show sSeq _ _ [some (.int i), none] _ = _
      rw [e0]
      refine seq_ex ?_
      rw [if_t (h1 := h) (by
        by_cases h1 : (0 : Int) - 10 ^ 30 < i
        · have h2 : ¬ i < (10 : Int) ^ 30 := by
            intro h2
            rw [hp] at h1 h2
            exact z (by omega)
          simp only [z_tNot, z_tB, z_eChain, z_eOp2, z_eC, z_eVar, List.getElem?_cons_zero, List.getElem?_cons_succ, Res.bind_ok, z_subI, z_ltI, decide_eq_true h1, decide_eq_false h2]
          rfl
        · simp only [z_tNot, z_tB, z_eChain, z_eOp2, z_eC, z_eVar, List.getElem?_cons_zero, List.getElem?_cons_succ, Res.bind_ok, z_subI, z_ltI, decide_eq_false h1]
          rfl)]
      simp [badX]
  | _ => cases hv
/-! ### write_value -/
mutual
def pcs : AV → List (List Nat)
  | .tup xs => pcsR true xs
  | v => [W v]
def pcsR : Bool → List AV → List (List Nat)
  | b, [] => (if b then [[40]] else []) ++ [[41]]
  | b, x :: r => (if b then [40] else [32]) :: (pcs x ++ pcsR false r)
end
mutual
def cost : AV → Nat
  | .tup xs => costs xs
  | _ => 1
def costs : List AV → Nat
  | [] => 1
  | x :: r => 1 + cost x + costs r
end
mutual
/-- a tree of None, ints, texts -/
def tree : AV → Bool
  | .non => true
  | .int _ => true
  | .str s => decide (s.length ≤ 1000000)
  | .tup xs => trees xs
  | _ => false
def trees : List AV → Bool
  | [] => true
  | x :: r => tree x && trees r
end
def cat (l : List (List Nat)) : List Nat := l.foldr (· ++ ·) []
theorem cat_app : ∀ (a b : List (List Nat)), cat (a ++ b) = cat a ++ cat b
  | [], b => rfl
  | x :: a, b => by
    show x ++ cat (a ++ b) = (x ++ cat a) ++ cat b
    rw [cat_app a b, List.append_assoc]
theorem joinL_cat : ∀ (l : List (List Nat)), joinL [] l = cat l
  | [] => rfl
  | [x] => by simp [joinL, cat]
  | x :: y :: r => by
    show x ++ [] ++ joinL [] (y :: r) = x ++ cat (y :: r)
    rw [joinL_cat (y :: r), List.append_nil]
theorem lenSum_cat : ∀ (l : List (List Nat)), lenSum [] l = (cat l).length
  | [] => rfl
  | x :: r => by
    show x.length + 0 + lenSum [] r = (x ++ cat r).length
    rw [lenSum_cat r]
    simp
mutual
theorem pcs_cat : ∀ (v : AV), tree v = true → cat (pcs v) = W v
  | .tup xs, h => by
    unfold tree at h
    rw [pcs, W]
    cases xs with
    | nil => rfl
    | cons x r =>
      have := (pcsR_cat (x :: r) h).2 x r rfl
      rw [pcsR]
      show [40] ++ cat (pcs x ++ pcsR false r) = _
      rw [cat_app, this]
      rfl
  | .non, _ => by simp [pcs, cat]
  | .int i, _ => by simp [pcs, cat]
  | .str s, _ => by simp [pcs, cat]
  | .bl _, h => by simp [tree] at h
  | .lst _, h => by simp [tree] at h
  | .scr _ _, h => by simp [tree] at h
  | .cel _, h => by simp [tree] at h
  | .xcp _ _ _, h => by simp [tree] at h
theorem pcsR_cat : ∀ (xs : List AV), trees xs = true → cat (pcsR false xs) = (if xs = [] then [41] else 32 :: (Ws xs ++ [41])) ∧ ∀ x r, xs = x :: r → cat (pcs x) ++ cat (pcsR false r) = Ws xs ++ [41]
  | [], _ => ⟨rfl, fun x r h => nomatch h⟩
  | x :: r, h => by
    simp only [trees, Bool.and_eq_true] at h
    have h1 := pcs_cat x h.1
    have h2 := (pcsR_cat r h.2).1
    have key : cat (pcs x) ++ cat (pcsR false r) = Ws (x :: r) ++ [41] := by
      rw [h1, h2]
      cases r with
      | nil => simp [Ws]
      | cons y r => simp [Ws]
    refine ⟨?_, fun x' r' e => by cases e; exact key⟩
    rw [pcsR]
    show [32] ++ cat (pcs x ++ pcsR false r) = _
    rw [cat_app, key, if_neg (by simp)]
    rfl
end
mutual
theorem cost_le : ∀ (v : AV), tree v = true → cost v ≤ (W v).length ∧ (pcs v).length ≤ 2 * cost v
  | .tup xs, h => by
    unfold tree at h
    obtain ⟨h1, h2⟩ := costs_le xs h
    rw [cost, W, pcs]
    refine ⟨?_, h2 true⟩
    simp only [List.length_cons, List.length_append, List.length_nil]
    omega
  | .non, _ => by simp [cost, W, pcs]
  | .int i, _ => by
    refine ⟨?_, by simp [cost, pcs]⟩
    simp only [cost, W]
    unfold intL
    split
    · simp
    · exact List.length_pos_iff.mpr (numL_ne i.natAbs)
  | .str s, _ => by simp [cost, W, pcs]
  | .bl _, h => by simp [tree] at h
  | .lst _, h => by simp [tree] at h
  | .scr _ _, h => by simp [tree] at h
  | .cel _, h => by simp [tree] at h
  | .xcp _ _ _, h => by simp [tree] at h
theorem costs_le : ∀ (xs : List AV), trees xs = true → costs xs ≤ (Ws xs).length + 2 ∧ ∀ b, (pcsR b xs).length ≤ 2 * costs xs
  | [], _ => ⟨by simp [costs, Ws], fun b => by cases b <;> simp [pcsR, costs]⟩
  | x :: r, h => by
    simp only [trees, Bool.and_eq_true] at h
    obtain ⟨h1, h2⟩ := cost_le x h.1
    obtain ⟨h3, h4⟩ := costs_le r h.2
    refine ⟨?_, fun b => ?_⟩
    · cases r with
      | nil =>
        simp only [costs, Ws]
        omega
      | cons y r =>
        rw [costs, Ws]
        simp only [List.length_append, List.length_cons]
        omega
    · rw [pcsR, costs]
      have := h4 false
      simp only [List.length_cons, List.length_append]
      omega
end
end Lk94

end

section
set_option maxHeartbeats 4000000
namespace Lk94
open Mi MiL Cd
/-! ### two cells behind h -/
section
variable {h : AH} {ps ws : List AV}
theorem two0 : (h ++ [HC.lst ps, HC.lst ws])[h.length]? = some (.lst ps) := by simp
theorem two1 : (h ++ [HC.lst ps, HC.lst ws])[h.length + 1]? = some (.lst ws) := by simp
theorem pop1 {x : AV} : mPop (.cel (h.length + 1)) (h ++ [.lst ps, .lst (ws ++ [x])]) = .ok x (h ++ [.lst ps, .lst ws]) := by
  have e : mPop (.cel (h.length + 1)) (h ++ [.lst ps, .lst (ws ++ [x])]) = (match (h ++ [HC.lst ps, HC.lst (ws ++ [x])])[h.length + 1]? with
    | some (.lst xs) => (match xs[xs.length - 1]? with
      | some v => .ok v ((h ++ [HC.lst ps, HC.lst (ws ++ [x])]).set (h.length + 1) (.lst xs.dropLast))
      | none => .no)
    | _ => .no) := rfl
  rw [e, two1]
  dsimp only
  have e1 : (ws ++ [x])[(ws ++ [x]).length - 1]? = some x := by simp
  rw [e1, set_app1]
  simp
theorem app0 {y : AV} (hl : ps.length < 16777216) : mAppend (.cel h.length) y (h ++ [.lst ps, .lst ws]) = .ok .non (h ++ [.lst (ps ++ [y]), .lst ws]) := by
  rw [z_app, two0]
  dsimp only
  rw [if_pos (by rw [line_is]; exact hl), set_app0]
theorem app1 {y : AV} (hl : ws.length < 16777216) : mAppend (.cel (h.length + 1)) y (h ++ [.lst ps, .lst ws]) = .ok .non (h ++ [.lst ps, .lst (ws ++ [y])]) := by
  rw [z_app, two1]
  dsimp only
  rw [if_pos (by rw [line_is]; exact hl), set_app1]
theorem ty0 : tyA "list" (h ++ [.lst ps, .lst ws]) (.cel h.length) = true := by
  unfold tyA
  simp only [two0]
  rfl
theorem ty1 : tyA "list" (h ++ [.lst ps, .lst ws]) (.cel (h.length + 1)) = true := by
  unfold tyA
  simp only [two1]
  rfl
theorem len1 : cLen [.cel (h.length + 1)] (h ++ [.lst ps, .lst ws]) = .ok (.int ws.length) (h ++ [.lst ps, .lst ws]) := by
  rw [z_lenC, two1]
end
def WFr (v0 : AV) (n : Nat) (o3 o4 : Option AV) : AS := [some v0, some (.cel n), some (.cel (n + 1)), o3, o4]
def H2 (h : AH) (ps : List (List Nat)) (ws : List AV) : AH := h ++ [.lst (ps.map .str), .lst ws]
theorem isTy_tup_leaf {v : AV} {h : AH} (hv : isLeaf v = true) : isTy "tuple" v h = some false := by
  cases v <;> first | rfl | cases hv
section
variable {h : AH} {v0 : AV} {o3 o4 : Option AV} {ps : List (List Nat)} {ws : List AV}
theorem wt_t {x : AV} : t_write_value_0 (WFr v0 h.length o3 o4) (H2 h ps (ws ++ [x])) = .ok true (H2 h ps (ws ++ [x])) := by
  show tB _ _ _ = _
  have : (0 : Int) < ((ws ++ [x]).length : Int) := by simp only [List.length_append, List.length_cons, List.length_nil]; omega
  simp only [z_tB, z_eOp2, z_eCall, z_aCons, z_eVar, z_aNil, WFr, List.getElem?_cons_succ, List.getElem?_cons_zero, Res.bind_ok, H2, len1, z_eC, z_gtI, decide_eq_true this]
theorem wt_f : t_write_value_0 (WFr v0 h.length o3 o4) (H2 h ps []) = .ok false (H2 h ps []) := by
  show tB _ _ _ = _
  simp only [z_tB, z_eOp2, z_eCall, z_aCons, z_eVar, z_aNil, WFr, List.getElem?_cons_succ, List.getElem?_cons_zero, Res.bind_ok, H2, len1, z_eC, z_gtI]
  rfl
theorem wb_pop {t : S} {x : AV} {k : Int} : sSeq (sAsg (eOp1 mPop (eVar 2)) (gTp [gNm 3, gNm 4])) t (WFr v0 h.length o3 o4) (H2 h ps (ws ++ [.tup [x, .int k]])) = t (WFr v0 h.length (some x) (some (.int k))) (H2 h ps ws) := by
  refine seq_nx ?_
  have e : (eOp1 mPop (eVar 2)) (WFr v0 h.length o3 o4) (H2 h ps (ws ++ [.tup [x, .int k]])) = .ok (.tup [x, .int k]) (H2 h ps ws) := pop1
  rw [z_sAsg, e]
  rfl
theorem w_app0 {s : List Nat} {e : E} {a b : Option AV} (he : e (WFr v0 h.length a b) (H2 h ps ws) = .ok (.str s) (H2 h ps ws)) (hl : ps.length < 16777216) : sDrop (eM1 "list" mAppend (eVar 1) e) (WFr v0 h.length a b) (H2 h ps ws) = .nx (WFr v0 h.length a b) (H2 h (ps ++ [s]) ws) := by
  rw [z_sDrop, z_eM1]
  have e1 : eVar 1 (WFr v0 h.length a b) (H2 h ps ws) = .ok (.cel h.length) (H2 h ps ws) := rfl
  rw [e1, Res.bind_ok]
  unfold H2 at he ⊢
  rw [if_pos ty0, he, Res.bind_ok, app0 (by simpa using hl)]
  simp
theorem w_app1 {y : AV} {e : E} {a b : Option AV} (he : e (WFr v0 h.length a b) (H2 h ps ws) = .ok y (H2 h ps ws)) (hl : ws.length < 16777216) : sDrop (eM1 "list" mAppend (eVar 2) e) (WFr v0 h.length a b) (H2 h ps ws) = .nx (WFr v0 h.length a b) (H2 h ps (ws ++ [y])) := by
  rw [z_sDrop, z_eM1]
  have e1 : eVar 2 (WFr v0 h.length a b) (H2 h ps ws) = .ok (.cel (h.length + 1)) (H2 h ps ws) := rfl
  rw [e1, Res.bind_ok]
  unfold H2 at he ⊢
  rw [if_pos ty1, he, Res.bind_ok, app1 hl]
  simp
theorem wb_leaf {v : AV} (hv : isLeaf v = true) (hl : leafLen v ≤ 1000000) (hp : ps.length < 16777216) :
    s_write_value_0 (WFr v0 h.length o3 o4) (H2 h ps (ws ++ [.tup [v, .int 0]])) = if good v = true then .nx (WFr v0 h.length (some v) (some (.int 0))) (H2 h (ps ++ [W v]) ws) else .ex (badX 0) (WFr v0 h.length (some v) (some (.int 0))) (H2 h ps ws) := by
  show sSeq _ _ _ _ = _
  rw [wb_pop]
  rw [if_t (h1 := H2 h ps ws) (by
    have := isTy_tup_leaf (h := H2 h ps ws) hv
    simp [WFr, this])]
  have hw := writeleaf_ok hv hl (H2 h ps ws)
  by_cases g : good v = true
  · rw [if_pos g] at hw ⊢
    exact w_app0 hw hp
  · rw [if_neg g] at hw ⊢
    rw [z_sDrop, z_eM1]
    have e1 : eVar 1 (WFr v0 h.length (some v) (some (.int 0))) (H2 h ps ws) = .ok (.cel h.length) (H2 h ps ws) := rfl
    rw [e1, Res.bind_ok]
    unfold H2 at hw ⊢
    rw [if_pos ty0]
    have e2 : (eCall m_write_leaf (aCons (eVar 3) aNil)) (WFr v0 h.length (some v) (some (.int 0))) (h ++ [HC.lst (ps.map .str), HC.lst ws]) = m_write_leaf [v] (h ++ [HC.lst (ps.map .str), HC.lst ws]) := rfl
    rw [e2, hw]
    rfl
theorem wb_more {xs : List AV} {k : Nat} {x : AV} (hx : xs[k]? = some x) (hp : ps.length < 16777215) (hw : ws.length < 16777215) :
    s_write_value_0 (WFr v0 h.length o3 o4) (H2 h ps (ws ++ [.tup [.tup xs, .int (k : Int)]])) = .nx (WFr v0 h.length (some (.tup xs)) (some (.int (k : Int)))) (H2 h (ps ++ [if (k == 0) = true then [40] else [32]]) (ws ++ [.tup [.tup xs, .int ((k + 1 : Nat) : Int)]] ++ [.tup [x, .int 0]])) := by
  have hk := (List.getElem?_eq_some_iff.mp hx).1
  have hkI : (k : Int) < xs.length := by omega
  show sSeq _ _ _ _ = _
  rw [wb_pop]
  rw [if_f (h1 := H2 h ps ws) (by simp [WFr, isTy])]
  rw [seq_nx (σ1 := WFr v0 h.length (some (.tup xs)) (some (.int (k : Int)))) (h1 := H2 h (ps ++ [if (k == 0) = true then [40] else [32]]) ws) (by
    by_cases k0 : k = 0
    · subst k0
      rw [if_t (h1 := H2 h ps ws) (by simp [WFr])]
      rw [w_app0 (s := [40]) rfl (by omega)]
      rfl
    · rw [if_f (h1 := H2 h ps ws) (by
        have : ¬ (k : Int) = 0 := by omega
        simp [WFr, this, k0])]
      rw [if_t (h1 := H2 h ps ws) (by simp [WFr, hk])]
      rw [w_app0 (s := [32]) rfl (by omega)]
      have : (k == 0) = false := by simpa using k0
      rw [this]
      rfl)]
  rw [if_t (h1 := H2 h (ps ++ [if (k == 0) = true then [40] else [32]]) ws) (by simp [WFr, hk])]
  rw [seq_nx (w_app1 (y := .tup [.tup xs, .int ((k + 1 : Nat) : Int)]) (by simp [WFr]) (by omega))]
  rw [w_app1 (y := .tup [x, .int 0]) (by simp [WFr, atI_nat, hx]) (by simp; omega)]
theorem wb_end {xs : List AV} {k : Nat} (hk : xs.length ≤ k) (hp : ps.length < 16777215) :
    s_write_value_0 (WFr v0 h.length o3 o4) (H2 h ps (ws ++ [.tup [.tup xs, .int (k : Int)]])) = .nx (WFr v0 h.length (some (.tup xs)) (some (.int (k : Int)))) (H2 h (ps ++ ((if (k == 0) = true then [[40]] else []) ++ [[41]])) ws) := by
  show sSeq _ _ _ _ = _
  rw [wb_pop]
  rw [if_f (h1 := H2 h ps ws) (by simp [WFr, isTy])]
  rw [seq_nx (σ1 := WFr v0 h.length (some (.tup xs)) (some (.int (k : Int)))) (h1 := H2 h (ps ++ (if (k == 0) = true then [[40]] else [])) ws) (by
    by_cases k0 : k = 0
    · subst k0
      rw [if_t (h1 := H2 h ps ws) (by simp [WFr])]
      rw [w_app0 (s := [40]) rfl (by omega)]
      rfl
    · rw [if_f (h1 := H2 h ps ws) (by
        have : ¬ (k : Int) = 0 := by omega
        simp [WFr, this, k0])]
      have hkn : ¬ k < xs.length := by omega
      rw [if_no (h1 := H2 h ps ws) (by simp [WFr, hkn])]
      have : (k == 0) = false := by simpa using k0
      rw [this]
      simp)]
  have hkn : ¬ k < xs.length := by omega
  rw [if_f (h1 := H2 h (ps ++ (if (k == 0) = true then [[40]] else [])) ws) (by simp [WFr, hkn])]
  rw [w_app0 (s := [41]) rfl (by
    have : (ps ++ (if (k == 0) = true then [[40]] else [])).length ≤ ps.length + 1 := by
      rw [List.length_append]
      split <;> simp
    omega)]
  rw [List.append_assoc]
end
theorem leaf_pcs {v : AV} (hv : isLeaf v = true) : pcs v = [W v] ∧ cost v = 1 := by
  cases v with
  | non => exact ⟨by simp only [pcs], by simp only [cost]⟩
  | int i => exact ⟨by simp only [pcs], by simp only [cost]⟩
  | str s => exact ⟨by simp only [pcs], by simp only [cost]⟩
  | _ => cases hv
def wrun (fuel : Nat) (v0 : AV) (h : AH) (o3 o4 : Option AV) (ps : List (List Nat)) (ws : List AV) : RS := whileF t_write_value_0 s_write_value_0 fuel (WFr v0 h.length o3 o4) (H2 h ps ws)
theorem wv_leaf {v : AV} (hv : isLeaf v = true) (hl : leafLen v ≤ 1000000) {v0 : AV} {h : AH} {f : Nat} {o3 o4 : Option AV} {ps : List (List Nat)} {ws : List AV} (hp : ps.length + 2 * cost v < 16000000) :
    (good v = true ∧ ∃ o3' o4', wrun (cost v + f) v0 h o3 o4 ps (ws ++ [.tup [v, .int 0]]) = wrun f v0 h o3' o4' (ps ++ pcs v) ws) ∨ (good v = false ∧ ∃ σ' u, wrun (cost v + f) v0 h o3 o4 ps (ws ++ [.tup [v, .int 0]]) = .ex (badX 0) σ' (h ++ u)) := by
  obtain ⟨e1, e2⟩ := leaf_pcs hv
  rw [e2] at hp
  have hb := wb_leaf (v0 := v0) (h := h) (o3 := o3) (o4 := o4) (ps := ps) (ws := ws) hv hl (by omega)
  rw [e1, e2, Nat.add_comm 1 f]
  by_cases g : good v = true
  · rw [if_pos g] at hb
    exact .inl ⟨g, _, _, while_nx wt_t hb⟩
  · rw [if_neg g] at hb
    exact .inr ⟨by simpa using g, _, _, while_ex wt_t hb⟩
mutual
theorem wv_run : ∀ (v : AV) (v0 : AV) (h : AH) (f : Nat) (o3 o4 : Option AV) (ps : List (List Nat)) (ws : List AV), tree v = true → ps.length + 2 * cost v < 16000000 → ws.length + cost v < 16000000 →
    (good v = true ∧ ∃ o3' o4', wrun (cost v + f) v0 h o3 o4 ps (ws ++ [.tup [v, .int 0]]) = wrun f v0 h o3' o4' (ps ++ pcs v) ws) ∨ (good v = false ∧ ∃ σ' u, wrun (cost v + f) v0 h o3 o4 ps (ws ++ [.tup [v, .int 0]]) = .ex (badX 0) σ' (h ++ u))
  | .tup xs, v0, h, f, o3, o4, ps, ws, ht, hp, hw => by
    unfold tree at ht
    rw [cost] at hp hw ⊢
    rw [pcs, good]
    exact wvs_run xs xs 0 v0 h f o3 o4 ps ws ht rfl hp hw
  | .non, v0, h, f, o3, o4, ps, ws, ht, hp, hw => wv_leaf rfl (by decide) hp
  | .int i, v0, h, f, o3, o4, ps, ws, ht, hp, hw => wv_leaf rfl (by simp [leafLen]) hp
  | .str s, v0, h, f, o3, o4, ps, ws, ht, hp, hw => wv_leaf rfl (by simpa [leafLen, tree] using ht) hp
  | .bl _, _, _, _, _, _, _, _, ht, _, _ => by simp [tree] at ht
  | .lst _, _, _, _, _, _, _, _, ht, _, _ => by simp [tree] at ht
  | .scr _ _, _, _, _, _, _, _, _, ht, _, _ => by simp [tree] at ht
  | .cel _, _, _, _, _, _, _, _, ht, _, _ => by simp [tree] at ht
  | .xcp _ _ _, _, _, _, _, _, _, _, ht, _, _ => by simp [tree] at ht
theorem wvs_run : ∀ (r xs : List AV) (k : Nat) (v0 : AV) (h : AH) (f : Nat) (o3 o4 : Option AV) (ps : List (List Nat)) (ws : List AV), trees r = true → xs.drop k = r → ps.length + 2 * costs r < 16000000 → ws.length + costs r < 16000000 →
    (goods r = true ∧ ∃ o3' o4', wrun (costs r + f) v0 h o3 o4 ps (ws ++ [.tup [.tup xs, .int (k : Int)]]) = wrun f v0 h o3' o4' (ps ++ pcsR (k == 0) r) ws) ∨ (goods r = false ∧ ∃ σ' u, wrun (costs r + f) v0 h o3 o4 ps (ws ++ [.tup [.tup xs, .int (k : Int)]]) = .ex (badX 0) σ' (h ++ u))
  | [], xs, k, v0, h, f, o3, o4, ps, ws, ht, hd, hp, hw => by
    rw [costs] at hp ⊢
    rw [pcsR, Nat.add_comm 1 f]
    exact .inl ⟨rfl, _, _, while_nx wt_t (wb_end (List.drop_eq_nil_iff.mp hd) (by omega))⟩
  | x :: r, xs, k, v0, h, f, o3, o4, ps, ws, ht, hd, hp, hw => by
    simp only [trees, Bool.and_eq_true] at ht
    rw [costs] at hp hw ⊢
    have hx : xs[k]? = some x := by
      rw [← List.head?_drop, hd]
      rfl
    have hd2 : xs.drop (k + 1) = r := by
      rw [← List.drop_drop, hd]
      rfl
    have hb := wb_more (v0 := v0) (h := h) (o3 := o3) (o4 := o4) (ps := ps) (ws := ws) hx (by omega) (by omega)
    have e0 : wrun (1 + cost x + costs r + f) v0 h o3 o4 ps (ws ++ [.tup [.tup xs, .int (k : Int)]]) = wrun (cost x + (costs r + f)) v0 h (some (.tup xs)) (some (.int (k : Int))) (ps ++ [if (k == 0) = true then [40] else [32]]) (ws ++ [.tup [.tup xs, .int ((k + 1 : Nat) : Int)]] ++ [.tup [x, .int 0]]) := by
      rw [show 1 + cost x + costs r + f = (cost x + (costs r + f)) + 1 by omega]
      exact while_nx wt_t hb
    rw [e0, goods]
    rcases wv_run x v0 h (costs r + f) (some (.tup xs)) (some (.int (k : Int))) (ps ++ [if (k == 0) = true then [40] else [32]]) (ws ++ [.tup [.tup xs, .int ((k + 1 : Nat) : Int)]]) ht.1 (by simp only [List.length_append, List.length_cons, List.length_nil]; omega) (by simp only [List.length_append, List.length_cons, List.length_nil]; omega) with ⟨g1, o3', o4', e1⟩ | ⟨g1, σ', u, e1⟩
    · rw [e1, g1]
      have hpl : (pcs x).length ≤ 2 * cost x := (cost_le x ht.1).2
      rcases wvs_run r xs (k + 1) v0 h f o3' o4' (ps ++ [if (k == 0) = true then [40] else [32]] ++ pcs x) ws ht.2 hd2 (by simp only [List.length_append, List.length_cons, List.length_nil]; omega) (by omega) with ⟨g2, o3', o4', e2⟩ | ⟨g2, σ', u, e2⟩
      · refine .inl ⟨by rw [g2]; rfl, o3', o4', ?_⟩
        rw [e2, pcsR]
        simp
      · exact .inr ⟨by rw [g2]; rfl, σ', u, e2⟩
    · exact .inr ⟨by rw [g1]; rfl, σ', u, e1⟩
end
end Lk94

end

section
set_option maxHeartbeats 4000000
namespace Lk94
open Mi MiL Cd
theorem writevalue_ok {v : AV} (ht : tree v = true) (hl : (W v).length ≤ 900000) (h : AH) : (good v = true ∧ ∃ u, m_write_value [v] h = .ok (.str (W v)) (h ++ u)) ∨ (good v = false ∧ ∃ u, m_write_value [v] h = .ex (badX 0) (h ++ u)) := by
  have hc := (cost_le v ht).1
  have pre : ∀ t, (sSeq (sAsg (eLstC (aNil)) (gNm 1)) (sSeq (sAsg (eLstC (aCons (eTup (aCons (eVar 0) (aCons (eC (.int 0)) (aNil)))) (aNil))) (gNm 2)) t)) [some v, none, none, none, none] h = t (WFr v h.length none none) (H2 h [] ([] ++ [.tup [v, .int 0]])) := by
    intro t
    rw [seq_nx (σ1 := [some v, some (.cel h.length), none, none, none]) (h1 := h ++ [.lst []]) (by simp)]
    rw [seq_nx (σ1 := WFr v h.length none none) (h1 := H2 h [] ([] ++ [.tup [v, .int 0]])) (by simp [WFr, H2])]
  obtain ⟨f, hf⟩ : ∃ f, 1000000 = cost v + (f + 1) := ⟨1000000 - cost v - 1, by omega⟩
  have hW : ∀ t, (sSeq (sWhile 1000000 (t_write_value_0) (s_write_value_0)) t) (WFr v h.length none none) (H2 h [] ([] ++ [.tup [v, .int 0]])) = (match wrun (cost v + (f + 1)) v h none none [] ([] ++ [.tup [v, .int 0]]) with | .nx σ1 h1 => t σ1 h1 | r => r) := by
    intro t
    rw [← hf]
    rfl
  rcases wv_run v v h (f + 1) none none [] [] ht (by simp; omega) (by simp; omega) with ⟨g, o3, o4, e⟩ | ⟨g, σ', u, e⟩
  · have e2 : wrun (f + 1) v h o3 o4 ([] ++ pcs v) [] = .nx (WFr v h.length o3 o4) (H2 h (pcs v) []) := while_f wt_f
    refine .inl ⟨g, [.lst ((pcs v).map .str), .lst []], ?_⟩
    refine def_rt rfl ?_
    show sSeq _ _ [some v, none, none, none, none] _ = _
    rw [pre, hW, e, e2]
    dsimp only
    refine ret_ok ?_
    have hj : joinL [] (pcs v) = W v := by rw [joinL_cat, pcs_cat v ht]
    have hs : lenSum [] (pcs v) ≤ LINE := by rw [lenSum_cat, pcs_cat v ht, line_is]; omega
    have hsq : seqOf (H2 h (pcs v) []) (.cel h.length) = some ((pcs v).map .str) := by
      have : lstOf (H2 h (pcs v) []) (.cel h.length) = (match (H2 h (pcs v) [])[h.length]? with | some (.lst xs) => some xs | _ => none) := rfl
      refine seqOf_of ?_
      rw [this]
      unfold H2
      rw [two0]
    have e3 : eM1 "str" mJoin (eC (.str [])) (eVar 1) (WFr v h.length o3 o4) (H2 h (pcs v) []) = mJoin (.str []) (.cel h.length) (H2 h (pcs v) []) := rfl
    rw [e3, z_join, hsq]
    dsimp only
    rw [strsOf_map]
    dsimp only
    rw [if_pos hs, hj]
    rfl
  · refine .inr ⟨g, u, ?_⟩
    refine def_ex (σ1 := σ') rfl ?_
    show sSeq _ _ [some v, none, none, none, none] _ = _
    rw [pre, hW, e]
theorem write_good {v : AV} (ht : tree v = true) (hl : (W v).length ≤ 900000) (g : good v = true) (h : AH) : ∃ u, m_write_value [v] h = .ok (.str (W v)) (h ++ u) := by
  rcases writevalue_ok ht hl h with ⟨_, e⟩ | ⟨g2, _⟩
  · exact e
  · rw [g] at g2
    cases g2
theorem write_bad {v : AV} (ht : tree v = true) (hl : (W v).length ≤ 900000) (g : good v = false) (h : AH) : ∃ u, m_write_value [v] h = .ex (badX 0) (h ++ u) := by
  rcases writevalue_ok ht hl h with ⟨g2, _⟩ | ⟨_, e⟩
  · rw [g] at g2
    cases g2
  · exact e
/-! ### is_plain -/
mutual
def pl : AV → Bool
  | .non => true
  | .int _ => true
  | .str _ => true
  | .tup xs => pls xs
  | _ => false
def pls : List AV → Bool
  | [] => true
  | x :: r => pl x && pls r
end
mutual
def sz : AV → Nat
  | .tup xs => 1 + szs xs
  | _ => 1
def szs : List AV → Nat
  | [] => 0
  | x :: r => sz x + szs r
end
mutual
/-- nothing that is_plain could not look at; d: the dict's cell -/
def okd (d : Option Nat) : AV → Bool
  | .tup xs => okds d xs
  | .cel n => decide (d = some n)
  | .scr _ _ => false
  | .xcp _ _ _ => false
  | _ => true
def okds (d : Option Nat) : List AV → Bool
  | [] => true
  | x :: r => okd d x && okds d r
end
theorem pls_app : ∀ (a b : List AV), pls (a ++ b) = (pls a && pls b)
  | [], b => by simp [pls]
  | x :: a, b => by simp [pls, pls_app a b, Bool.and_assoc]
theorem szs_app : ∀ (a b : List AV), szs (a ++ b) = szs a + szs b
  | [], b => by simp [szs]
  | x :: a, b => by simp [szs, szs_app a b, Nat.add_assoc]
theorem okds_app {d : Option Nat} : ∀ (a b : List AV), okds d (a ++ b) = (okds d a && okds d b)
  | [], b => by simp [okds]
  | x :: a, b => by simp [okds, okds_app a b, Bool.and_assoc]
theorem pl_bad {v : AV} (h1 : isLeaf v = false) (h2 : isT v = false) : pl v = false := by cases v <;> simp_all [isLeaf, isT, pl]
theorem sz_pos (v : AV) : 1 ≤ sz v := by cases v <;> simp only [sz] <;> omega
theorem szs_len : ∀ (a : List AV), a.length ≤ szs a
  | [] => by simp [szs]
  | x :: a => by
    have := sz_pos x
    have := szs_len a
    simp only [szs, List.length_cons]
    omega
section
variable {h : AH} {ws : List AV} {v0 : AV} {o2 : Option AV}
theorem one0 : (h ++ [HC.lst ws])[h.length]? = some (.lst ws) := by simp
def PF (v0 : AV) (n : Nat) (o : Option AV) : AS := [some v0, some (.cel n), o]
theorem pt_t {x : AV} : t_is_plain_0 (PF v0 h.length o2) (h ++ [.lst (ws ++ [x])]) = .ok true (h ++ [.lst (ws ++ [x])]) := by
  show tB _ _ _ = _
  have : (0 : Int) < ((ws ++ [x]).length : Int) := by simp only [List.length_append, List.length_cons, List.length_nil]; omega
  simp only [z_tB, z_eOp2, z_eCall, z_aCons, z_eVar, z_aNil, PF, List.getElem?_cons_succ, List.getElem?_cons_zero, Res.bind_ok, z_lenC, one0, z_eC, z_gtI, decide_eq_true this]
theorem pt_f : t_is_plain_0 (PF v0 h.length o2) (h ++ [.lst []]) = .ok false (h ++ [.lst []]) := by
  show tB _ _ _ = _
  simp only [z_tB, z_eOp2, z_eCall, z_aCons, z_eVar, z_aNil, PF, List.getElem?_cons_succ, List.getElem?_cons_zero, Res.bind_ok, z_lenC, one0, z_eC, z_gtI]
  rfl
theorem pp_pop {t : S} {x : AV} : sSeq (sAsg (eOp1 mPop (eVar 1)) (gNm 2)) t (PF v0 h.length o2) (h ++ [.lst (ws ++ [x])]) = t (PF v0 h.length (some x)) (h ++ [.lst ws]) := by
  refine seq_nx ?_
  have e0 : mPop (.cel h.length) (h ++ [.lst (ws ++ [x])]) = (match (h ++ [HC.lst (ws ++ [x])])[h.length]? with
    | some (.lst xs) => (match xs[xs.length - 1]? with
      | some v => .ok v ((h ++ [HC.lst (ws ++ [x])]).set h.length (.lst xs.dropLast))
      | none => .no)
    | _ => .no) := rfl
  have e : (eOp1 mPop (eVar 1)) (PF v0 h.length o2) (h ++ [.lst (ws ++ [x])]) = .ok x (h ++ [.lst ws]) := by
    show mPop (.cel h.length) _ = _
    rw [e0, one0]
    dsimp only
    have e1 : (ws ++ [x])[(ws ++ [x]).length - 1]? = some x := by simp
    rw [e1, set_app0]
    simp
  rw [z_sAsg, e]
  rfl
theorem pb_tup {xs : List AV} (hl : ws.length + xs.length ≤ 16777216) : s_is_plain_0 (PF v0 h.length o2) (h ++ [.lst (ws ++ [.tup xs])]) = .nx (PF v0 h.length (some (.tup xs))) (h ++ [.lst (ws ++ xs)]) := by
  show sSeq _ _ _ _ = _
  rw [pp_pop]
  rw [if_t (h1 := h ++ [.lst ws]) (by simp [PF, isTy])]
  have ty : tyA "list" (h ++ [.lst ws]) (.cel h.length) = true := by
    unfold tyA
    simp only [one0]
    rfl
  rw [z_sDrop, z_eM1]
  have e1 : eVar 1 (PF v0 h.length (some (.tup xs))) (h ++ [.lst ws]) = .ok (.cel h.length) (h ++ [.lst ws]) := rfl
  rw [e1, Res.bind_ok, if_pos ty]
  have e2 : eCall cList (aCons (eVar 2) aNil) (PF v0 h.length (some (.tup xs))) (h ++ [.lst ws]) = .ok (.lst xs) (h ++ [.lst ws]) := rfl
  rw [e2, Res.bind_ok]
  have e3 : mExtend (.cel h.length) (.lst xs) (h ++ [.lst ws]) = (match (h ++ [HC.lst ws])[h.length]? with
    | some (.lst ys) => if ys.length + xs.length ≤ LINE then .ok .non ((h ++ [HC.lst ws]).set h.length (.lst (ys ++ xs))) else .no
    | _ => .no) := rfl
  rw [e3, one0]
  dsimp only
  rw [if_pos (by rw [line_is]; exact hl), set_app0]
  rfl
theorem pb_leaf {v : AV} (hv : isLeaf v = true) : s_is_plain_0 (PF v0 h.length o2) (h ++ [.lst (ws ++ [v])]) = .nx (PF v0 h.length (some v)) (h ++ [.lst ws]) := by
  show sSeq _ _ _ _ = _
  rw [pp_pop]
  cases v <;> first | (simp [PF, isTy, AV.isN]; done) | cases hv
/-- the cell d holds a dict -/
def DicAt (h : AH) (d : Option Nat) : Prop := ∀ n, d = some n → ∃ b kvs, h[n]? = some (.dic b kvs)
theorem pb_bad {v : AV} {d : Option Nat} (hd : DicAt h d) (ho : okd d v = true) (hv : isLeaf v = false) (nt : isT v = false) : s_is_plain_0 (PF v0 h.length o2) (h ++ [.lst (ws ++ [v])]) = .rt (.bl false) (h ++ [.lst ws]) := by
  show sSeq _ _ _ _ = _
  rw [pp_pop]
  cases v with
  | cel n =>
    have hn : d = some n := by simpa [okd] using ho
    obtain ⟨b, kvs, hd⟩ := hd n hn
    have hd2 : (h ++ [HC.lst ws])[n]? = some (.dic b kvs) := by rw [List.getElem?_append_left (List.getElem?_eq_some_iff.mp hd).1]; exact hd
    have ty : ∀ t, isTy t (.cel n) (h ++ [HC.lst ws]) = some (t == "dict") := fun t => by
      unfold isTy
      simp only [hd2]
    simp [PF, ty, AV.isN]
  | bl b => simp [PF, isTy]
  | lst xs => simp [PF, isTy, AV.isN]
  | scr _ _ => simp [okd] at ho
  | xcp _ _ _ => simp [okd] at ho
  | tup _ => cases nt
  | non => cases hv
  | int _ => cases hv
  | str _ => cases hv
theorem plain_loop {d : Option Nat} (hd : DicAt h d) : ∀ (fuel : Nat) (ws : List AV) (o2 : Option AV), szs ws < fuel → fuel ≤ 1000000 → okds d ws = true →
    (pls ws = true ∧ ∃ o2', whileF t_is_plain_0 s_is_plain_0 fuel (PF v0 h.length o2) (h ++ [.lst ws]) = .nx (PF v0 h.length o2') (h ++ [.lst []])) ∨ (pls ws = false ∧ ∃ u, whileF t_is_plain_0 s_is_plain_0 fuel (PF v0 h.length o2) (h ++ [.lst ws]) = .rt (.bl false) (h ++ u))
  | 0, _, _, hf, _, _ => by omega
  | f + 1, ws, o2, hf, hm, ho => by
    rcases List.eq_nil_or_concat ws with rfl | ⟨ws', x, rfl⟩
    · exact .inl ⟨rfl, o2, while_f pt_f⟩
    · rw [List.concat_eq_append] at hf ho ⊢
      rw [szs_app] at hf
      rw [okds_app, Bool.and_eq_true] at ho
      have hx : okd d x = true := by simpa [okds] using ho.2
      have hsx : szs [x] = sz x := by simp [szs]
      rw [hsx] at hf
      rw [pls_app]
      have hpx : pls [x] = pl x := by simp [pls]
      rw [hpx]
      by_cases hl : isLeaf x = true
      · have hp : pl x = true := by cases x <;> first | rfl | (simp only [pl]; done) | cases hl
        rw [hp, while_nx pt_t (pb_leaf hl), Bool.and_true]
        have := sz_pos x
        exact plain_loop hd f ws' _ (by omega) (by omega) ho.1
      · have hl : isLeaf x = false := by simpa using hl
        cases ht : isT x with
        | true =>
          cases x with
          | tup xs =>
            have hs : sz (.tup xs) = 1 + szs xs := by simp only [sz]
            have hpt : pl (.tup xs) = pls xs := by simp only [pl]
            have hot : okds d xs = true := by simpa only [okd] using hx
            rw [hs] at hf
            have l1 := szs_len xs
            have l2 := szs_len ws'
            rw [while_nx pt_t (pb_tup (by omega)), hpt, ← pls_app]
            exact plain_loop hd f (ws' ++ xs) _ (by rw [szs_app]; omega) (by omega) (by rw [okds_app, ho.1, hot]; rfl)
          | _ => cases ht
        | false =>
          have hp : pl x = false := pl_bad hl ht
          rw [hp, Bool.and_false]
          exact .inr ⟨rfl, _, while_rt pt_t (pb_bad hd hx hl ht)⟩
theorem isplain_ok {d : Option Nat} (hd : DicAt h d) {v : AV} (hs : sz v < 900000) (ho : okd d v = true) : ∃ u, m_is_plain [v] h = .ok (.bl (pl v)) (h ++ u) := by
  have pre : ∀ t, sSeq (sAsg (eLstC (aCons (eVar 0) (aNil))) (gNm 1)) t [some v, none, none] h = t (PF v h.length none) (h ++ [.lst [v]]) := fun t => seq_nx (by simp [PF])
  have e1 : pls [v] = pl v := by simp [pls]
  rcases plain_loop (v0 := v) hd 1000000 [v] none (by simp [szs]; omega) (Nat.le_refl _) (by simpa [okds] using ho) with ⟨g, o2', e⟩ | ⟨g, u, e⟩
  · refine ⟨[.lst []], ?_⟩
    refine def_rt rfl ?_
    show sSeq _ _ [some v, none, none] _ = _
    rw [pre, seq_nx (show sWhile 1000000 _ _ _ _ = _ from e)]
    rw [← e1, g]
    exact ret_ok rfl
  · refine ⟨u, def_rt rfl ?_⟩
    show sSeq _ _ [some v, none, none] _ = _
    rw [pre, ← e1, g]
    exact seq_rt e
end
end Lk94

end

section
set_option maxHeartbeats 4000000
namespace Lk94
open Mi MiL Cd
theorem tns_get {xs : List AV} {i : Nat} {x : AV} (h : xs[i]? = some x) : tn x ≤ tns xs ∧ sz x ≤ szs xs := by
  induction xs generalizing i with
  | nil => simp at h
  | cons y ys ih =>
    cases i with
    | zero =>
      simp at h
      subst h
      simp only [tns, szs]
      omega
    | succ i =>
      have := ih (i := i) (by simpa using h)
      simp only [tns, szs]
      omega
theorem goods_get {xs : List AV} {i : Nat} {x : AV} (ht : goods xs = true) (h : xs[i]? = some x) : good x = true := by
  induction xs generalizing i with
  | nil => simp at h
  | cons y ys ih =>
    simp only [goods, Bool.and_eq_true] at ht
    cases i with
    | zero =>
      simp at h
      subst h
      exact ht.1
    | succ i => exact ih ht.2 (i := i) (by simpa using h)
theorem good_plain {s : List Nat} (h : s.all okc = true) : plain 0 (.str s) = true := by
  show s.all _ = true
  rw [List.all_eq_true] at h ⊢
  intro c hc
  have := h c hc
  unfold okc at this
  simp only [Bool.or_eq_true, beq_iff_eq] at this
  rcases this with z | z
  · have := sgn_iff.mp z
    exact decide_eq_true (by omega)
  · exact decide_eq_true (by omega)
theorem same_deep : ∀ (k : Nat) (v : AV) (h : AH), good v = true → tn v ≤ k → sz v ≤ 1000000 → m__law_same (k + 1) [v, v] h = .ok (.bl true) h := by
  intro k
  induction k with
  | zero =>
    intro v h ht hn hs
    cases v with
    | tup xs => simp only [tn] at hn; omega
    | non => exact same_base (j := 0) (by omega) rfl rfl rfl
    | int i => rw [same_base (j := 0) (by omega) rfl rfl rfl]; simp [sameB]
    | str s =>
      have hp := good_plain (by simpa only [good] using ht)
      rw [same_base (j := 0) (by omega) hp hp rfl]
      simp [sameB]
    | _ => simp [good] at ht
  | succ k ih =>
    intro v h ht hn hs
    cases v with
    | tup xs =>
      have hn : tns xs ≤ k := by simp only [tn] at hn; omega
      have ht : goods xs = true := by simpa only [good] using ht
      have hs : szs xs ≤ 1000000 := by simp only [sz] at hs; omega
      have hlen := szs_len xs
      have hB : inBig (xs.length : Int) = true := inBig_of (by omega) (by omega)
      rw [same_tup (zs := []) rfl hB (lcL_none _ _ fun y hy => ?_)]
      · rfl
      · obtain ⟨i, hi, rfl⟩ := mem_rng hy
        obtain ⟨a, ha⟩ : ∃ a, xs[i]? = some a := ⟨_, List.getElem?_eq_getElem hi⟩
        have e := ih a h (goods_get ht ha) (by have := tns_get ha; omega) (by have := tns_get ha; omega)
        refine ⟨_, rfl, ?_⟩
        simp [atI_nat, ha, e]
    | non => exact same_base (j := 0) (by omega) rfl rfl rfl
    | int i => rw [same_base (j := 0) (by omega) rfl rfl rfl]; simp [sameB]
    | str s =>
      have hp := good_plain (by simpa only [good] using ht)
      rw [same_base (j := 0) (by omega) hp hp rfl]
      simp [sameB]
    | _ => simp [good] at ht
end Lk94

end

section
set_option maxHeartbeats 4000000
namespace Lk94
open Mi MiL Cd
/-! ### draws -/
def sg (d : Nat) : AV := .str [d]
theorem signs_of {p : Nat → Prop} {ys : List AV} (h : ∀ y ∈ ys, ∃ d, y = sg d ∧ p d) : ∃ ds : List Nat, ys = ds.map sg ∧ ∀ d ∈ ds, p d := by
  induction ys with
  | nil => exact ⟨[], rfl, by simp⟩
  | cons y ys ih =>
    obtain ⟨d, rfl, hd⟩ := h y (by simp)
    obtain ⟨ds, rfl, h2⟩ := ih fun z hz => h z (List.mem_cons_of_mem _ hz)
    refine ⟨d :: ds, rfl, fun x hx => ?_⟩
    rcases List.mem_cons.mp hx with rfl | hx
    · exact hd
    · exact h2 x hx
theorem join_sg {ds : List Nat} {h : AH} (hl : ds.length ≤ 16777216) : mJoin (.str []) (.lst (ds.map sg)) h = .ok (.str ds) h := by
  have e : ds.map sg = (ds.map fun d => [d]).map AV.str := by simp [sg]
  have hc : ∀ ds : List Nat, cat (ds.map fun d => [d]) = ds := by
    intro ds
    induction ds with
    | nil => rfl
    | cons d ds ih =>
      show [d] ++ cat (ds.map fun d => [d]) = _
      rw [ih]
      rfl
  have hs : seqOf h (.lst ((ds.map fun d => [d]).map AV.str)) = some ((ds.map fun d => [d]).map AV.str) := rfl
  rw [z_join, e, hs]
  dsimp only
  rw [strsOf_map]
  dsimp only
  rw [lenSum_cat, joinL_cat, hc, if_pos (by rw [line_is]; exact hl)]
/-- a number's word -/
def NumW (k : Nat) (w : List Nat) : Prop := ∃ (neg : Bool) (ds : List Nat), w = (if neg then 45 :: ds else ds) ∧ ds.length = k ∧ canon ds ∧ (neg = true → ds ≠ [48])
theorem NumW.val {k : Nat} {w : List Nat} (hk : 0 < k) (h : NumW k w) : ∃ i : Int, intL i = w ∧ intOf w = some i ∧ i.natAbs < 10 ^ k := by
  obtain ⟨neg, ds, rfl, hl, hc, hn⟩ := h
  have hb : numOf ds < 10 ^ k := by
    have := (numL_len (n := numOf ds) hk).mp (by rw [numL_numOf ds hc]; omega)
    exact this
  cases neg with
  | false =>
    have e : intL ((numOf ds : Nat) : Int) = ds := by rw [intL_nat, numL_numOf ds hc]
    exact ⟨((numOf ds : Nat) : Int), e, intOf_num (canon_digs hc), hb⟩
  | true =>
    have hp : 0 < numOf ds := by
      rcases hc with h | ⟨h1, h2⟩
      · exact absurd h (hn rfl)
      · have hne : ds ≠ [] := by
          obtain ⟨c, r, e, _⟩ := h1
          rw [e]
          simp
        exact numOf_pos ds hne h2 h1
    refine ⟨-((numOf ds : Nat) : Int), ?_, intOf_neg (canon_digs hc), by rw [Int.natAbs_neg]; exact hb⟩
    rw [intL_neg hp, numL_numOf ds hc]
    rfl
theorem NumW.len {k : Nat} {w : List Nat} (h : NumW k w) : w.length ≤ k + 1 := by
  obtain ⟨neg, ds, rfl, hl, _⟩ := h
  cases neg <;> simp <;> omega
theorem digit_str {r : Int} (h0 : 0 ≤ r) (h1 : r < 10) : ∃ d : Nat, isD d = true ∧ intL r = [d] ∧ d = 48 + r.toNat := by
  obtain ⟨n, rfl⟩ := Int.eq_ofNat_of_zero_le h0
  refine ⟨48 + n, isD_iff.mpr (by omega), ?_, rfl⟩
  rw [intL_nat, numL_lt (by omega)]
theorem small_log {r : Int} (h0 : 0 ≤ r) (h1 : r < 10) : r.natAbs.log2 < 1920 := log30 (by
  have : (10 : Nat) < 10 ^ 30 := by decide
  omega)
theorem num_digit {c : HC} {t : AH} (hd : Dr c) {σ : AS} (h0 : σ[0]? = some (some (.cel 0))) : ∃ y c', e__law_number_0 σ (c :: t) = .ok y (c' :: t) ∧ Dr c' ∧ ∃ d, y = sg d ∧ isD d = true := by
  obtain ⟨r, c', r0, r1, hd', e⟩ := draw_ok (t := t) (many := 10) hd (by omega) (by omega)
  obtain ⟨d, d1, d2, _⟩ := digit_str r0 r1
  refine ⟨sg d, c', ?_, hd', d, rfl, d1⟩
  simp [e__law_number_0, h0, e, small_log r0 r1, d2, sg]
theorem number_ok {c : HC} {t : AH} {many : Nat} (hd : Dr c) (h1 : 1 ≤ many) (h2 : many ≤ 100) : ∃ w c', NumW many w ∧ Dr c' ∧ m__law_number [.cel 0, .int (many : Int)] (c :: t) = .ok (.str w) (c' :: t) := by
  obtain ⟨r, c1, r0, r1, hd1, e1⟩ := draw_ok (t := t) (many := 9) hd (by omega) (by omega)
  obtain ⟨d, d1, d2, d3⟩ := digit_str (r := 1 + r) (by omega) (by omega)
  have hlog := small_log (r := 1 + r) (by omega) (by omega)
  obtain ⟨ys, c2, e2, hd2, l2, p2⟩ := lcL_dr0 (g := gNm 3) (t := tYes) (e := e__law_number_0) (σ := [some (.cel 0), some (.int (many : Int)), none, none]) (fun y => ∃ d, y = sg d ∧ isD d = true) t (rng 0 (many - 1)) c1 hd1 (by simp; omega) (fun x hx c hd => by
    obtain ⟨y, c', q1, q2, q3⟩ := num_digit (t := t) hd (σ := [some (.cel 0), some (.int (many : Int)), none, some x]) rfl
    exact ⟨_, y, c', rfl, rfl, q1, q2, q3⟩)
  obtain ⟨ds, rfl, hds⟩ := signs_of p2
  rw [rng_len, List.length_map] at l2
  have hB : inBig ((many : Int) - 1) = true := inBig_of (by omega) (by omega)
  have hT : ((many : Int) - 1).toNat = many - 1 := by omega
  have hls : ds.length ≤ 16777216 := by omega
  have hl2 : 1 + ds.length ≤ 16777216 := by omega
  have first : ∀ tl, sSeq (sAsg (eOp2 oAdd (eCall cStr (aCons (eOp2 oAdd (eC (.int 1)) (eCall m__law_draw (aCons (eVar 0) (aCons (eC (.int 9)) (aNil))))) (aNil))) (eM1 "str" mJoin (eC (.str [])) (eLc (iRng1 (eOp2 oSub (eVar 1) (eC (.int 1)))) (gNm 3) (tYes) (e__law_number_0) [3]))) (gNm 2)) tl [some (.cel 0), some (.int (many : Int)), none, none] (c :: t) = tl [some (.cel 0), some (.int (many : Int)), some (.str (d :: ds)), none] (c2 :: t) := by
    intro tl
    refine seq_nx ?_
    have tyS : tyA "str" (c1 :: t) (.str []) = true := rfl
    simp only [z_sAsg, z_eOp2, z_eCall, z_aCons, z_aNil, z_eVar, z_eC, z_eM1, z_eLc, z_lcOf, z_iRng1, z_subI, z_addI, List.getElem?_cons_zero, List.getElem?_cons_succ, Res.bind_ok, e1, z_str, if_pos hlog, d2, tyS, if_true, hB, hT, wipe, List.foldl_cons, List.foldl_nil, List.set_cons_succ, List.set_cons_zero, e2, z_noEx, join_sg hls]
    simp [hl2]
  have hcan : canon (d :: ds) := .inr ⟨⟨d, ds, rfl, by omega⟩, fun x hx => by
    rcases List.mem_cons.mp hx with rfl | hx
    · exact d1
    · exact hds x hx⟩
  have hlen : (d :: ds).length = many := by simp; omega
  have h48 : (d :: ds) ≠ [48] := fun z => by
    injection z with z1 z2
    omega
  -- the last part
  have last : ∀ (c3 : HC), Dr c3 → ∃ w c', NumW many w ∧ Dr c' ∧ sRet (eOp2 oAdd (eCall m__law_pick (aCons (eVar 0) (aCons (eLst (aCons (eC (.str [])) (aCons (eC (.str [])) (aCons (eC (.str [45])) (aNil))))) (aNil)))) (eVar 2)) [some (.cel 0), some (.int (many : Int)), some (.str (d :: ds)), none] (c3 :: t) = .rt (.str w) (c' :: t) := by
    intro c3 hd3
    obtain ⟨x, c', hx, hd', e⟩ := pick_ok (t := t) (v := .lst [.str [], .str [], .str [45]]) hd3 (fun _ => rfl) (by simp) (by simp) (by simp)
    have hll : ds.length ≤ 16777214 := by omega
    have hl3 : 1 + (ds.length + 1) ≤ 16777216 := by omega
    simp only [List.mem_cons, List.mem_nil_iff, or_false] at hx
    rcases hx with rfl | rfl | rfl
    · exact ⟨d :: ds, c', ⟨false, d :: ds, rfl, hlen, hcan, fun z => nomatch z⟩, hd', ret_ok (by simp [e]; omega)⟩
    · exact ⟨d :: ds, c', ⟨false, d :: ds, rfl, hlen, hcan, fun z => nomatch z⟩, hd', ret_ok (by simp [e]; omega)⟩
    · exact ⟨45 :: d :: ds, c', ⟨true, d :: ds, rfl, hlen, hcan, fun _ => h48⟩, hd', ret_ok (by simp [e]; omega)⟩
  by_cases hm : many = 1
  · obtain ⟨r3, c3, r30, r31, hd3, e3⟩ := draw_ok (t := t) (many := 3) hd2 (by omega) (by omega)
    have hmI : ((many : Int) == 1) = true := by simp [hm]
    by_cases hr : r3 = 0
    · refine ⟨[48], c3, ⟨false, [48], rfl, by simp [hm], .inl rfl, fun z => nomatch z⟩, hd3, ?_⟩
      refine def_rt rfl ?_
      show sSeq _ _ [some (.cel 0), some (.int (many : Int)), none, none] _ = _
      rw [first]
      refine seq_rt ?_
      rw [if_t (h1 := c3 :: t) (by simp [hmI, e3, hr])]
      exact ret_ok rfl
    · obtain ⟨w, c', hw, hd', e⟩ := last c3 hd3
      refine ⟨w, c', hw, hd', ?_⟩
      refine def_rt rfl ?_
      show sSeq _ _ [some (.cel 0), some (.int (many : Int)), none, none] _ = _
      rw [first]
      rw [seq_nx (if_no (h1 := c3 :: t) (by simp [hmI, e3, hr]))]
      exact e
  · have hmI : ((many : Int) == 1) = false := by simp; omega
    obtain ⟨w, c', hw, hd', e⟩ := last c2 hd2
    refine ⟨w, c', hw, hd', ?_⟩
    refine def_rt rfl ?_
    show sSeq _ _ [some (.cel 0), some (.int (many : Int)), none, none] _ = _
    rw [first]
    rw [seq_nx (if_no (h1 := c2 :: t) (by simp [hmI]))]
    exact e
end Lk94

end

section
set_option maxHeartbeats 4000000
namespace Lk94
open Mi MiL Cd
theorem W_str (s : List Nat) : W (.str s) = 39 :: (s.map semi ++ [39]) := by simp only [W]
theorem W_int (i : Int) : W (.int i) = intL i := by simp only [W]
theorem W_non : W .non = [45] := by simp only [W]
theorem W_tup (xs : List AV) : W (.tup xs) = 40 :: (Ws xs ++ [41]) := by simp only [W]
theorem good_str (s : List Nat) : good (.str s) = s.all okc := by simp only [good]
theorem good_int (i : Int) : good (.int i) = decide (i.natAbs < 10 ^ 30) := by simp only [good]
theorem good_non : good .non = true := by simp only [good]
theorem good_tup (xs : List AV) : good (.tup xs) = goods xs := by simp only [good]
/-- a leaf that has been made -/
structure Leaf (v : AV) : Prop where
  leaf : isLeaf v = true
  good : Cd.good v = true
  len : (W v).length ≤ 40
theorem pick_sg {c : HC} {t : AH} {s : List Nat} {σ : AS} {x : AV} (hd : Dr c) (h0 : 0 < s.length) (h1 : s.length < 1000000) : ∃ y c', m__law_pick [.cel 0, .str s] (c :: t) = .ok y (c' :: t) ∧ Dr c' ∧ ∃ d, y = sg d ∧ d ∈ s := by
  obtain ⟨x, c', hx, hd', e⟩ := pick_str (t := t) hd h0 h1
  exact ⟨sg x, c', e, hd', x, rfl, hx⟩
theorem leafmade_ok {c : HC} {t : AH} (hd : Dr c) : ∃ v c', Leaf v ∧ Dr c' ∧ m__law_leaf_made [.cel 0] (c :: t) = .ok (.tup [v, .str (W v)]) (c' :: t) := by
  obtain ⟨k, c1, k0, k1, hd1, e1⟩ := draw_ok (t := t) (many := 5) hd (by omega) (by omega)
  have first : ∀ tl, sSeq (sAsg (eCall m__law_draw (aCons (eVar 0) (aCons (eC (.int 5)) (aNil)))) (gNm 1)) tl [some (.cel 0), none, none, none, none, none] (c :: t) = tl [some (.cel 0), some (.int k), none, none, none, none] (c1 :: t) := fun tl => seq_nx (by simp [e1])
  by_cases hk0 : k = 0
  · refine ⟨.non, c1, ⟨rfl, good_non, by rw [W_non]; simp⟩, hd1, ?_⟩
    refine def_rt rfl ?_
    show sSeq _ _ [some (.cel 0), none, none, none, none, none] _ = _
    rw [first]
    refine seq_rt ?_
    rw [if_t (h1 := c1 :: t) (by simp [hk0])]
    exact ret_ok (by simp [W_non])
  · by_cases hk3 : k < 3
    · -- a number
      obtain ⟨x, c2, hx, hd2, e2⟩ := pick_ok (t := t) (v := .lst [.int 1, .int 1, .int 2, .int 3, .int 7, .int 18, .int 29, .int 30]) hd1 (fun _ => rfl) (by simp) (by simp) (by simp)
      have hx : ∃ m : Nat, x = .int (m : Int) ∧ 1 ≤ m ∧ m ≤ 30 := by
        simp only [List.mem_cons, List.mem_nil_iff, or_false] at hx
        rcases hx with rfl | rfl | rfl | rfl | rfl | rfl | rfl | rfl
        · exact ⟨1, rfl, by omega, by omega⟩
        · exact ⟨1, rfl, by omega, by omega⟩
        · exact ⟨2, rfl, by omega, by omega⟩
        · exact ⟨3, rfl, by omega, by omega⟩
        · exact ⟨7, rfl, by omega, by omega⟩
        · exact ⟨18, rfl, by omega, by omega⟩
        · exact ⟨29, rfl, by omega, by omega⟩
        · exact ⟨30, rfl, by omega, by omega⟩
      obtain ⟨m, rfl, m1, m2⟩ := hx
      obtain ⟨w, c3, hw, hd3, e3⟩ := number_ok (t := t) hd2 m1 (show m ≤ 100 by omega)
      obtain ⟨i, i1, i2, i3⟩ := hw.val (by omega)
      have hwl := hw.len
      have hg : i.natAbs < 10 ^ 30 := Nat.lt_of_lt_of_le i3 (Nat.pow_le_pow_right (by decide) m2)
      refine ⟨.int i, c3, ⟨rfl, by rw [good_int]; exact decide_eq_true hg, by rw [W_int, i1]; omega⟩, hd3, ?_⟩
      refine def_rt rfl ?_
      show sSeq _ _ [some (.cel 0), none, none, none, none, none] _ = _
      rw [first]
      rw [seq_nx (if_no (h1 := c1 :: t) (by simp [hk0]))]
      refine seq_rt ?_
      rw [if_t (h1 := c1 :: t) (by simp [hk3])]
      rw [seq_nx (σ1 := [some (.cel 0), some (.int k), none, none, some (.str w), none]) (h1 := c3 :: t) (by simp [e2, e3])]
      have h640 : w.length ≤ 640 := by omega
      exact ret_ok (by simp [h640, i2, W_int, i1])
    · -- a text
      obtain ⟨x, c2, hx, hd2, e2⟩ := pick_ok (t := t) (v := .lst [.int 0, .int 1, .int 2, .int 3, .int 9, .int 30]) hd1 (fun _ => rfl) (by simp) (by simp) (by simp)
      have hx : ∃ m : Nat, x = .int (m : Int) ∧ m ≤ 30 := by
        simp only [List.mem_cons, List.mem_nil_iff, or_false] at hx
        rcases hx with rfl | rfl | rfl | rfl | rfl | rfl
        · exact ⟨0, rfl, by omega⟩
        · exact ⟨1, rfl, by omega⟩
        · exact ⟨2, rfl, by omega⟩
        · exact ⟨3, rfl, by omega⟩
        · exact ⟨9, rfl, by omega⟩
        · exact ⟨30, rfl, by omega⟩
      obtain ⟨m, rfl, m2⟩ := hx
      obtain ⟨ys, c3, e3, hd3, l3, p3⟩ := lcL_dr0 (g := gNm 5) (t := tYes) (e := e__law_leaf_made_0) (σ := [some (.cel 0), some (.int k), some (.str (lawSigns ++ [10, 10])), none, none, none]) (fun y => ∃ d, y = sg d ∧ okc d = true) t (rng 0 m) c2 hd2 (by simp; omega) (fun x hx c hd => by
        obtain ⟨d, c', hx, hd', e⟩ := pick_str (t := t) (s := lawSigns ++ [10, 10]) hd (by decide) (by decide)
        refine ⟨_, sg d, c', rfl, rfl, ?_, hd', d, rfl, ?_⟩
        · simp [e__law_leaf_made_0, e, sg]
        · rcases List.mem_append.mp hx with h | h
          · unfold okc
            rw [mem_signs.mp h]
            rfl
          · simp at h
            subst h
            rfl)
      obtain ⟨ds, rfl, hds⟩ := signs_of p3
      rw [rng_len, List.length_map] at l3
      have hB : inBig (m : Int) = true := inBig_of (by omega) (by omega)
      have hls : ds.length ≤ 16777216 := by omega
      have hall : ds.all okc = true := by
        rw [List.all_eq_true]
        exact hds
      refine ⟨.str ds, c3, ⟨rfl, by rw [good_str]; exact hall, by rw [W_str]; simp; omega⟩, hd3, ?_⟩
      refine def_rt rfl ?_
      show sSeq _ _ [some (.cel 0), none, none, none, none, none] _ = _
      rw [first]
      rw [seq_nx (if_no (h1 := c1 :: t) (by simp [hk0]))]
      rw [seq_nx (if_no (h1 := c1 :: t) (by simp [hk3]))]
      rw [seq_nx (show sAsg (eOp2 oAdd (eCall m__law_signs aNil) (eC (.str [10, 10]))) (gNm 2) [some (.cel 0), some (.int k), none, none, none, none] (c1 :: t) = .nx [some (.cel 0), some (.int k), some (.str (lawSigns ++ [10, 10])), none, none, none] (c1 :: t) from rfl)]
      rw [seq_nx (σ1 := [some (.cel 0), some (.int k), some (.str (lawSigns ++ [10, 10])), some (.str ds), none, none]) (h1 := c3 :: t) (by
        have tyS : tyA "str" (c1 :: t) (.str []) = true := rfl
        simp only [z_sAsg, z_eOp2, z_eCall, z_aCons, z_aNil, z_eVar, z_eC, z_eM1, z_eLc, z_lcOf, z_iRng1, z_eLst, List.getElem?_cons_zero, List.getElem?_cons_succ, Res.bind_ok, tyS, if_true, List.length_cons, List.length_nil, line_is]
        simp [-z_join, e2, hB, wipe, e3, join_sg hls])]
      have a1 : ds.length + (ds.length + 1) ≤ 16777216 := by omega
      have a2 : 1 + ds.length ≤ 16777216 := by omega
      have a3 : 1 + ds.length + 1 ≤ 16777216 := by omega
      have a4 : ds.length ≤ 16777214 := by omega
      exact ret_ok (by simp [W_str, repC_semi, a1, a2, a3, a4])
/-! ### a bad leaf -/
structure BadL (v : AV) : Prop where
  tree : Lk94.tree v = true
  bad : good v = false
  len : (W v).length ≤ 100
theorem repC_none : ∀ (l : List Nat), 45 ∉ l → repC 45 [] l = l
  | [], _ => rfl
  | c :: l, h => by
    simp only [List.mem_cons, not_or] at h
    show (if c = 45 then [] else [c]) ++ repC 45 [] l = _
    rw [if_neg fun z => h.1 z.symm, repC_none l h.2]
    rfl
theorem bad_leaf_ok {c : HC} {t : AH} (hd : Dr c) : ∃ v c', BadL v ∧ Dr c' ∧ m__law_bad_leaf [.cel 0] (c :: t) = .ok v (c' :: t) := by
  obtain ⟨k, c1, k0, k1, hd1, e1⟩ := draw_ok (t := t) (many := 2) hd (by omega) (by omega)
  by_cases hk : k = 1
  · obtain ⟨x, c2, hx, hd2, e2⟩ := pick_ok (t := t) (v := .lst [.str [], .str [45]]) hd1 (fun _ => rfl) (by simp) (by simp) (by simp)
    obtain ⟨neg, rfl⟩ : ∃ neg : Bool, x = .str (if neg then [45] else []) := by
      simp only [List.mem_cons, List.mem_nil_iff, or_false] at hx
      rcases hx with rfl | rfl
      · exact ⟨false, rfl⟩
      · exact ⟨true, rfl⟩
    obtain ⟨r, c3, r0, r1, hd3, e3⟩ := draw_ok (t := t) (many := 9) hd2 (by omega) (by omega)
    obtain ⟨d, d1, d2, d3⟩ := digit_str (r := 1 + r) (by omega) (by omega)
    have hlog := small_log (r := 1 + r) (by omega) (by omega)
    obtain ⟨w, c4, hw, hd4, e4⟩ := number_ok (t := t) (many := 30) hd3 (by omega) (by omega)
    have e4 : m__law_number [.cel 0, .int 30] (c3 :: t) = .ok (.str w) (c4 :: t) := e4
    have hwl := hw.len
    obtain ⟨ng, ds, rfl, hl, hc, hn⟩ := hw
    have hds : ∀ x ∈ ds, isD x = true := (digs_iff.mp (canon_digs hc)).2
    have h45 : 45 ∉ ds := fun z => by have := hds 45 z; simp [isD] at this
    have hr : repC 45 [] (if ng then 45 :: ds else ds) = ds := by
      cases ng with
      | false => exact repC_none ds h45
      | true =>
        show (if 45 = 45 then [] else [45]) ++ repC 45 [] ds = _
        rw [repC_none ds h45]
        rfl
    have hcan : canon (d :: ds) := .inr ⟨⟨d, ds, rfl, by omega⟩, fun x hx => by
      rcases List.mem_cons.mp hx with rfl | hx
      · exact d1
      · exact hds x hx⟩
    have hbig : ¬ numOf (d :: ds) < 10 ^ 30 := by
      intro z
      have := (numL_len (k := 30) (by decide)).mpr z
      rw [numL_numOf _ hcan] at this
      simp at this
      omega
    obtain ⟨i, hi1, hi2, hi3⟩ : ∃ i : Int, intOf ((if neg then [45] else []) ++ d :: ds) = some i ∧ ¬ i.natAbs < 10 ^ 30 ∧ (intL i).length ≤ 40 := by
      cases neg with
      | false =>
        refine ⟨((numOf (d :: ds) : Nat) : Int), intOf_num (canon_digs hcan), hbig, ?_⟩
        rw [intL_nat, numL_numOf _ hcan]
        simp
        omega
      | true =>
        refine ⟨-((numOf (d :: ds) : Nat) : Int), intOf_neg (canon_digs hcan), by rw [Int.natAbs_neg]; exact hbig, ?_⟩
        have hp : 0 < numOf (d :: ds) := by omega
        rw [intL_neg hp, numL_numOf _ hcan]
        simp
        omega
    refine ⟨.int i, c4, ⟨rfl, by rw [good_int]; exact decide_eq_false hi2, by rw [W_int]; omega⟩, hd4, ?_⟩
    refine def_rt rfl ?_
    show sSeq _ _ [some (.cel 0), none, none, none] _ = _
    refine seq_rt ?_
    rw [if_t (h1 := c1 :: t) (by simp [e1, hk])]
    refine ret_ok ?_
    have hnl : (if neg then [45] else ([] : List Nat)).length ≤ 1 := by cases neg <;> simp
    have hnl2 : (if ng then 45 :: ds else ds).length ≤ 31 := by omega
    generalize (if neg then [45] else ([] : List Nat)) = ns at *
    generalize (if ng then 45 :: ds else ds) = ww at *
    have a1 : ns.length + 1 ≤ 16777216 := by omega
    have a2 : ns.length + 1 + ds.length ≤ 16777216 := by omega
    have a3 : ww.length ≤ 16777216 := by omega
    have a5 : ns.length ≤ 16777215 := by omega
    have a4 : ns.length + (ds.length + 1) ≤ 640 := by omega
    have ei : intOf (ns ++ [d] ++ ds) = some i := by simpa using hi1
    simp only [z_eCall, z_eOp2, z_eOp1, z_aCons, z_aNil, z_eVar, z_eC, z_eLst, List.getElem?_cons_zero, List.getElem?_cons_succ, Res.bind_ok, List.length_cons, List.length_nil, line_is]
    simp [e2, e3, hlog, d2, e4, hr, a1, a2, a3, a4, a5, hi1]
  · obtain ⟨m, c2, m0, m1, hd2, e2⟩ := draw_ok (t := t) (many := 12) hd1 (by omega) (by omega)
    obtain ⟨m, rfl⟩ := Int.eq_ofNat_of_zero_le m0
    obtain ⟨ys, c3, e3, hd3, l3, p3⟩ := lcL_dr0 (g := gNm 3) (t := tYes) (e := e__law_bad_leaf_0) (σ := [some (.cel 0), none, none, none]) (fun y => ∃ d, y = sg d ∧ True) t (rng 0 m) c2 hd2 (by simp; omega) (fun x hx c hd => by
      obtain ⟨d, c', hx, hd', e⟩ := pick_str (t := t) (s := lawSigns ++ [10]) hd (by decide) (by decide)
      refine ⟨_, sg d, c', rfl, rfl, ?_, hd', d, rfl, trivial⟩
      have : oAdd (.str lawSigns) (.str [10]) (c :: t) = .ok (.str (lawSigns ++ [10])) (c :: t) := rfl
      simp only [e__law_bad_leaf_0, z_eCall, z_aCons, z_aNil, z_eVar, z_eOp2, z_eC, List.getElem?_cons_zero, z_gNm, List.set_cons_succ, List.set_cons_zero, Res.bind_ok, signs_ok, this, e]
      rfl)
    obtain ⟨ds, rfl, _⟩ := signs_of p3
    rw [rng_len, List.length_map] at l3
    have hB : inBig (m : Int) = true := inBig_of (by omega) (by omega)
    have hls : ds.length ≤ 16777216 := by omega
    obtain ⟨a, c4, a0, a1, hd4, e4⟩ := draw_ok (t := t) (many := (ds.length : Int) + 1) hd3 (by omega) (by omega)
    obtain ⟨a, rfl⟩ := Int.eq_ofNat_of_zero_le a0
    obtain ⟨b, c5, hb, hd5, e5⟩ := pick_str (t := t) (s := [39, 59, 9]) hd4 (by decide) (by decide)
    have hbk : okc b = false := by
      simp only [List.mem_cons, List.mem_nil_iff, or_false] at hb
      rcases hb with rfl | rfl | rfl <;> decide
    have htl : (cut ds none (some (a : Int))).length ≤ ds.length := by
      rw [cut_to (by omega)]
      simp
      omega
    have hdl : (cut ds (some (a : Int)) none).length ≤ ds.length := by
      rw [cut_from (by omega)]
      simp
    generalize hA : cut ds none (some (a : Int)) = A at htl
    generalize hD : cut ds (some (a : Int)) none = D at hdl
    have hall : (A ++ [b] ++ D).all okc = false := by
      simp [hbk]
    refine ⟨.str (A ++ [b] ++ D), c5, ⟨?_, by rw [good_str]; exact hall, ?_⟩, hd5, ?_⟩
    · show decide _ = true
      refine decide_eq_true ?_
      simp
      omega
    · rw [W_str]
      simp
      omega
    · refine def_rt rfl ?_
      show sSeq _ _ [some (.cel 0), none, none, none] _ = _
      rw [seq_nx (if_no (h1 := c1 :: t) (by simp [e1, hk]))]
      rw [seq_nx (σ1 := [some (.cel 0), some (.str ds), none, none]) (h1 := c3 :: t) (by
        have tyS : tyA "str" (c1 :: t) (.str []) = true := rfl
        simp only [z_sAsg, z_eOp2, z_eCall, z_aCons, z_aNil, z_eVar, z_eC, z_eM1, z_eLc, z_lcOf, z_iRng1, z_eLst, List.getElem?_cons_zero, List.getElem?_cons_succ, Res.bind_ok, tyS, if_true, List.length_cons, List.length_nil, line_is]
        simp [-z_join, e2, hB, wipe, e3, join_sg hls])]
      rw [seq_nx (σ1 := [some (.cel 0), some (.str ds), some (.int (a : Int)), none]) (h1 := c4 :: t) (by simp [hls, e4])]
      have b1 : A.length + 1 ≤ 16777216 := by omega
      have b2 : A.length + 1 + D.length ≤ 16777216 := by omega
      have b3 : A.length ≤ 16777215 := by omega
      have b4 : A.length + (D.length + 1) ≤ 16777216 := by omega
      exact ret_ok (by simp [hls, hA, hD, e5, b1, b2, b3, b4])
end Lk94

end

section
set_option maxHeartbeats 4000000
namespace Lk94
open Mi MiL Cd
/-- a value that has been made: its text at most B long, at most N tuples -/
structure Made (v : AV) (B N : Nat) : Prop where
  good : Cd.good v = true
  len : (W v).length ≤ B
  tn : Cd.tn v ≤ N
theorem Made.mono {v : AV} {B N B' N' : Nat} (m : Made v B N) (h1 : B ≤ B') (h2 : N ≤ N') : Made v B' N' := ⟨m.good, Nat.le_trans m.len h1, Nat.le_trans m.tn h2⟩
theorem Leaf.made {v : AV} (l : Leaf v) : Made v 40 0 := ⟨l.good, l.len, by
  have := l.leaf
  cases v <;> first | (simp only [Cd.tn]; omega) | cases this⟩
theorem tn_leaf {v : AV} (h : isLeaf v = true) : Cd.tn v = 0 := by
  cases v <;> first | (simp only [Cd.tn]; done) | cases h
theorem wrap_step {c : HC} {t : AH} {p m : AV} {v : AV} {B N : Nat} {o5 o6 : Option AV} (hd : Dr c) (hv : Made v B N) (hB : B ≤ 1000000) :
    ∃ v' c' o6', s__law_wrapped_0 [some (.cel 0), some p, some m, some v, some (.str (W v)), o5, o6] (c :: t) = .nx [some (.cel 0), some p, some m, some v', some (.str (W v')), o5, o6'] (c' :: t) ∧ Dr c' ∧ Made v' (B + 5) (N + 1) := by
  obtain ⟨k, c1, k0, k1, hd1, e1⟩ := draw_ok (t := t) (many := 3) hd (by omega) (by omega)
  have hl := hv.len
  have b1 : 1 + (W v).length ≤ 16777216 := by omega
  have b2 : 1 + (W v).length + 3 ≤ 16777216 := by omega
  have b3 : 4 + (W v).length ≤ 16777216 := by omega
  have b4 : 4 + (W v).length + 1 ≤ 16777216 := by omega
  have b5 : 1 + (W v).length + 1 ≤ 16777216 := by omega
  have b6 : (W v).length ≤ 16777212 := by omega
  have b7 : (W v).length ≤ 16777211 := by omega
  have b8 : (W v).length ≤ 16777214 := by omega
  have b9 : (W v).length ≤ 16777215 := by omega
  have first : ∀ tl, sSeq (sAsg (eCall m__law_draw (aCons (eVar 0) (aCons (eC (.int 3)) (aNil)))) (gNm 6)) tl [some (.cel 0), some p, some m, some v, some (.str (W v)), o5, o6] (c :: t) = tl [some (.cel 0), some p, some m, some v, some (.str (W v)), o5, some (.int k)] (c1 :: t) := fun tl => seq_nx (by simp [e1])
  have hg := hv.good
  have ht := hv.tn
  by_cases h0 : k = 0
  · refine ⟨.tup [v, .non], c1, some (.int k), ?_, hd1, ⟨?_, ?_, ?_⟩⟩
    · show sSeq _ _ _ _ = _
      rw [first, if_t (h1 := c1 :: t) (by simp [h0])]
      have : W (.tup [v, .non]) = [40] ++ W v ++ [32, 45, 41] := by rw [W_tup]; simp [Ws, W_non]
      rw [this]
      simp [b1, b2, b6, b9]
    · rw [good_tup]; simp [goods, hg, good_non]
    · rw [W_tup]; simp [Ws, W_non]; omega
    · simp only [Cd.tn, tns]; omega
  · by_cases h1 : k = 1
    · refine ⟨.tup [.str [], v], c1, some (.int k), ?_, hd1, ⟨?_, ?_, ?_⟩⟩
      · show sSeq _ _ _ _ = _
        rw [first, if_f (h1 := c1 :: t) (by simp [h0]), if_t (h1 := c1 :: t) (by simp [h1])]
        have : W (.tup [.str [], v]) = [40, 39, 39, 32] ++ W v ++ [41] := by rw [W_tup]; simp [Ws, W_str]
        rw [this]
        simp [b3, b4, b7, b9]
      · rw [good_tup]; simp [goods, hg, good_str]
      · rw [W_tup]; simp [Ws, W_str]; omega
      · simp only [Cd.tn, tns]; omega
    · refine ⟨.tup [v], c1, some (.int k), ?_, hd1, ⟨?_, ?_, ?_⟩⟩
      · show sSeq _ _ _ _ = _
        rw [first, if_f (h1 := c1 :: t) (by simp [h0]), if_f (h1 := c1 :: t) (by simp [h1])]
        have : W (.tup [v]) = [40] ++ W v ++ [41] := by rw [W_tup]; simp [Ws]
        rw [this]
        simp [b1, b5, b8, b9]
      · rw [good_tup]; simp [goods, hg]
      · rw [W_tup]; simp [Ws]; omega
      · simp only [Cd.tn, tns]; omega
theorem wrapped_ok {c : HC} {t : AH} {v : AV} {B N many : Nat} (hd : Dr c) (hv : Made v B N) (hB : B + 5 * many ≤ 1000000) :
    ∃ v' c', m__law_wrapped [.cel 0, .tup [v, .str (W v)], .int (many : Int)] (c :: t) = .ok (.tup [v', .str (W v')]) (c' :: t) ∧ Dr c' ∧ Made v' (B + 5 * many) (N + many) := by
  have hBg : inBig (many : Int) = true := inBig_of (by omega) (by omega)
  obtain ⟨σ', h', e, v', c', o5, o6, rfl, rfl, hd', hm⟩ := forL_inv (g := gNm 5) (b := s__law_wrapped_0) (fun i σ h => ∃ w c o5 o6, h = c :: t ∧ σ = [some (.cel 0), some (.tup [v, .str (W v)]), some (.int (many : Int)), some w, some (.str (W w)), o5, o6] ∧ Dr c ∧ Made w (B + 5 * i) (N + i))
    (rng 0 many) 0 [some (.cel 0), some (.tup [v, .str (W v)]), some (.int (many : Int)), some v, some (.str (W v)), none, none] (c :: t) ⟨v, c, none, none, rfl, rfl, hd, hv⟩ (fun i x σ h hx hI => by
      obtain ⟨v1, c1, o5, o6, rfl, rfl, hd1, hm1⟩ := hI
      obtain ⟨hi, rfl⟩ := rng_get hx
      rw [Nat.zero_add] at hm1 ⊢
      obtain ⟨v2, c2, o6', e, hd2, hm2⟩ := wrap_step (p := .tup [v, .str (W v)]) (m := .int (many : Int)) (t := t) (o5 := some (.int (0 + (i : Int)))) (o6 := o6) hd1 hm1 (by omega)
      exact ⟨_, _, _, _, rfl, .inl e, v2, c2, _, _, rfl, rfl, hd2, hm2⟩)
  rw [Nat.zero_add, rng_len] at hm
  refine ⟨v', c', ?_, hd', hm⟩
  refine def_rt rfl ?_
  show sSeq _ _ [some (.cel 0), some (.tup [v, .str (W v)]), some (.int (many : Int)), none, none, none, none] _ = _
  rw [seq_nx (σ1 := [some (.cel 0), some (.tup [v, .str (W v)]), some (.int (many : Int)), some v, some (.str (W v)), none, none]) (h1 := c :: t) (by simp)]
  rw [seq_nx (for_seq (h1 := c :: t) (xs := rng 0 many) (by simp [hBg]) e)]
  exact ret_ok (by simp)
/-! ### trees are made -/
/-- the text of the rows below -/
def tq : List (List AV) → List Nat
  | [] => []
  | T :: R => tq R ++ 40 :: sep T
structure MI (n i : Nat) (R : List (List AV)) (tx : List Nat) : Prop where
  ne : R ≠ []
  few : R.length ≤ 40
  txt : ∀ T R', R = T :: R' → tx = tq R' ++ 40 :: Ws T
  good : ∀ T ∈ R, goods T = true
  rowl : ∀ T ∈ R, T.length ≤ n
  cnt : rowsT R + (R.length - 1) ≤ i
  len : tx.length ≤ 1 + 42 * i
theorem MI.close {n i : Nat} {T T2 : List AV} {R : List (List AV)} {tx : List Nat} (m : MI n i (T :: T2 :: R) tx) : MI (n + 1) i ((T2 ++ [.tup T]) :: R) (tx ++ [41]) ∨ True := .inr trivial
theorem rowsT_two {T T2 : List AV} {R : List (List AV)} : rowsT ((T2 ++ [.tup T]) :: R) = rowsT (T :: T2 :: R) + 1 := by
  simp only [rowsT_cons, tns_app, tns, Cd.tn]
  omega
theorem txt_close {T T2 : List AV} {R : List (List AV)} : tq (T2 :: R) ++ 40 :: Ws T ++ [41] = tq R ++ 40 :: Ws (T2 ++ [.tup T]) := by
  rw [Ws_snoc, W_tup, tq]
  simp
theorem txt_leaf {T : List AV} {R : List (List AV)} {v : AV} : tq R ++ 40 :: sep T ++ W v = tq R ++ 40 :: Ws (T ++ [v]) := by
  rw [Ws_snoc]
  simp
theorem txt_open {T : List AV} {R : List (List AV)} : tq R ++ 40 :: sep T ++ [40] = tq (T :: R) ++ 40 :: Ws [] := by
  rw [tq]
  simp [Ws]
def MF (many n : Nat) (tx : List Nat) (o4 o5 o6 o7 : Option AV) : AS := [some (.cel 0), some (.int (many : Int)), some (.cel (n + 1)), some (.str tx), o4, o5, o6, o7]
/-- one tuple is closed -/
theorem close_step {c : HC} {t u : AH} {many : Nat} {T T2 : List AV} {R : List (List AV)} {tx : List Nat} {o4 o5 o6 o7 : Option AV} (S : Stk (c :: t).length u 1 (T :: T2 :: R)) (hT : T2.length < 16777216) (hx : tx.length < 1000000) :
    ∃ u', (sSeq (sAsg (eCall cTuple (aCons (eOp1 mPop (eVar 2)) (aNil))) (gNm 6)) (sSeq (sDrop (eM1 "list" mAppend (eOp2 oIx (eVar 2) (eOp1 oNeg (eC (.int 1)))) (eVar 6))) (sAsg (eOp2 oAdd (eVar 3) (eC (.str [41]))) (gNm 3)))) (MF many (c :: t).length tx o4 o5 o6 o7) ((c :: t) ++ u) = .nx (MF many (c :: t).length (tx ++ [41]) o4 o5 (some (.tup T)) o7) ((c :: t) ++ u') ∧ Stk (c :: t).length u' 1 ((T2 ++ [.tup T]) :: R) := by
  obtain ⟨u1, e1, S1⟩ := pop_tup S (σ := MF many (c :: t).length tx o4 o5 o6 o7) (i := 2) rfl
  obtain ⟨u2, e2, S2⟩ := app_top S1 (σ := MF many (c :: t).length tx o4 o5 (some (.tup T)) o7) (i := 2) (e := eVar 6) (v := .tup T) rfl rfl hT
  refine ⟨u2, ?_, S2⟩
  rw [seq_nx (σ1 := MF many (c :: t).length tx o4 o5 (some (.tup T)) o7) (h1 := (c :: t) ++ u1) (by
    rw [z_sAsg, e1]
    rfl)]
  rw [seq_nx e2]
  have b1 : tx.length ≤ 16777215 := by omega
  have b2 : tx.length + 1 ≤ 16777216 := by omega
  simp [MF, b1, b2]
theorem made_step {c : HC} {t u : AH} {many n i : Nat} {R : List (List AV)} {tx : List Nat} {o4 o5 o6 o7 : Option AV} (hd : Dr c) (S : Stk (c :: t).length u 1 R) (m : MI n i R tx) (hi : i ≤ 100) (hn : n ≤ 1000) :
    ∃ c' u' R' tx' o5' o6' o7', s__law_made_0 (MF many (c :: t).length tx o4 o5 o6 o7) ((c :: t) ++ u) = .nx (MF many (c' :: t).length tx' o4 o5' o6' o7') ((c' :: t) ++ u') ∧ Dr c' ∧ Stk (c' :: t).length u' 1 R' ∧ MI (n + 1) (i + 1) R' tx' := by
  obtain ⟨k, c1, k0, k1, hd1, e1⟩ := draw_ok (t := t ++ u) (many := 6) hd (by omega) (by omega)
  have S : Stk (c1 :: t).length u 1 R := S
  have first : ∀ tl, sSeq (sAsg (eCall m__law_draw (aCons (eVar 0) (aCons (eC (.int 6)) (aNil)))) (gNm 5)) tl (MF many (c :: t).length tx o4 o5 o6 o7) ((c :: t) ++ u) = tl (MF many (c1 :: t).length tx o4 (some (.int k)) o6 o7) ((c1 :: t) ++ u) := fun tl => seq_nx (by
    have e1 : m__law_draw [.cel 0, .int 6] ((c :: t) ++ u) = .ok (.int k) ((c1 :: t) ++ u) := e1
    simp only [MF, z_sAsg, z_eCall, z_aCons, z_aNil, z_eVar, z_eC, List.getElem?_cons_zero, Res.bind_ok, e1]
    rfl)
  have ml := m.len
  obtain ⟨T, R', rfl⟩ : ∃ T R', R = T :: R' := by
    cases R with
    | nil => exact absurd rfl m.ne
    | cons T R' => exact ⟨T, R', rfl⟩
  have hTl := m.rowl T (by simp)
  have hfew := m.few
  have htx := m.txt T R' rfl
  have hcnt := m.cnt
  have hgT := m.good T (by simp)
  by_cases hcl : k = 0 ∧ R' ≠ []
  · obtain ⟨T2, R2, rfl⟩ : ∃ T2 R2, R' = T2 :: R2 := by
      cases R' with
      | nil => exact absurd rfl hcl.2
      | cons a b => exact ⟨a, b, rfl⟩
    have hT2 := m.rowl T2 (by simp)
    obtain ⟨u2, e2, S2⟩ := close_step (c := c1) (t := t) (many := many) (tx := tx) (o4 := o4) (o5 := some (.int k)) (o6 := o6) (o7 := o7) S (by omega) (by omega)
    refine ⟨c1, u2, (T2 ++ [.tup T]) :: R2, tx ++ [41], some (.int k), some (.tup T), o7, ?_, hd1, S2, ⟨by simp, by simp only [List.length_cons] at hfew ⊢; omega, fun T' R'' e => ?_, fun T' hT' => ?_, fun T' hT' => ?_, ?_, by simp only [List.length_append, List.length_cons, List.length_nil]; omega⟩⟩
    · show sSeq _ _ _ _ = _
      rw [first]
      rw [if_t (h1 := (c1 :: t) ++ u) (by
        have hz : (1 : Int) < ((T :: T2 :: R2).length : Int) := by simp only [List.length_cons]; omega
        have := S.len
        simp only [z_tAnd, z_tB, z_eOp2, z_eCall, z_aCons, z_aNil, z_eVar, z_eC, MF, List.getElem?_cons_zero, List.getElem?_cons_succ, Res.bind_ok, z_eqI, hcl.1, this, z_gtI, decide_eq_true hz]
        rfl)]
      exact e2
    · cases e
      rw [htx, txt_close]
    · rcases List.mem_cons.mp hT' with rfl | h
      · rw [goods_app, m.good T2 (by simp)]
        simp only [goods, good_tup, hgT]
        rfl
      · exact m.good T' (by simp [h])
    · rcases List.mem_cons.mp hT' with rfl | h
      · simp only [List.length_append, List.length_cons, List.length_nil]
        omega
      · have := m.rowl T' (by simp [h])
        omega
    · rw [rowsT_two]
      simp only [List.length_cons] at hcnt ⊢
      omega
  · -- a blank, if need be
    have hcond : (tAnd (tB (eOp2 oEq (eVar 5) (eC (.int 0)))) (tB (eOp2 oGt (eCall cLen (aCons (eVar 2) (aNil))) (eC (.int 1))))) (MF many (c1 :: t).length tx o4 (some (.int k)) o6 o7) ((c1 :: t) ++ u) = .ok false ((c1 :: t) ++ u) := by
      have hlen := S.len
      by_cases hk : k = 0
      · have hR : R' = [] := by
          cases R' with
          | nil => rfl
          | cons a b => exact absurd ⟨hk, by simp⟩ hcl
        subst hR
        simp only [z_tAnd, z_tB, z_eOp2, z_eCall, z_aCons, z_aNil, z_eVar, z_eC, MF, List.getElem?_cons_zero, List.getElem?_cons_succ, Res.bind_ok, z_eqI, hk, hlen, z_gtI]
        rfl
      · have hb : (k == 0) = false := by simpa using hk
        simp only [z_tAnd, z_tB, z_eOp2, z_eC, z_eVar, MF, List.getElem?_cons_zero, List.getElem?_cons_succ, Res.bind_ok, z_eqI, hb]
        rfl
    have hsep : tx ++ (if T = [] then [] else [32]) = tq R' ++ 40 :: sep T := by
      rw [htx]
      unfold sep
      by_cases hT : T = []
      · simp [hT, Ws]
      · simp [hT]
    have hsl : (tq R' ++ 40 :: sep T).length ≤ tx.length + 1 := by
      rw [← hsep]
      simp only [List.length_append]
      split <;> simp
    have blank : ∀ tl, sSeq (sIf (tB (eOp2 oGt (eCall cLen (aCons (eOp2 oIx (eVar 2) (eOp1 oNeg (eC (.int 1)))) (aNil))) (eC (.int 0)))) (sAsg (eOp2 oAdd (eVar 3) (eC (.str [32]))) (gNm 3)) (sNx)) tl (MF many (c1 :: t).length tx o4 (some (.int k)) o6 o7) ((c1 :: t) ++ u) = tl (MF many (c1 :: t).length (tq R' ++ 40 :: sep T) o4 (some (.int k)) o6 o7) ((c1 :: t) ++ u) := by
      intro tl
      refine seq_nx ?_
      obtain ⟨a, q1, q2, q3, _⟩ := S.top
      have hcl : cLen [.cel ((c1 :: t).length + a)] ((c1 :: t) ++ u) = .ok (.int T.length) ((c1 :: t) ++ u) := by
        rw [z_lenC, get_rel, q3]
      rw [← hsep]
      by_cases hT : T = []
      · rw [if_no (h1 := (c1 :: t) ++ u) (by
          simp only [z_tB, z_eOp2, z_eCall, z_aCons, z_aNil, z_eVar, z_eC, z_eOp1, z_negI, MF, List.getElem?_cons_zero, List.getElem?_cons_succ, Res.bind_ok, q1, hcl, z_gtI, hT]
          rfl)]
        simp [hT]
      · have hz : (0 : Int) < (T.length : Int) := by
          have := List.length_pos_iff.mpr hT
          omega
        rw [if_t (h1 := (c1 :: t) ++ u) (by
          simp only [z_tB, z_eOp2, z_eCall, z_aCons, z_aNil, z_eVar, z_eC, z_eOp1, z_negI, MF, List.getElem?_cons_zero, List.getElem?_cons_succ, Res.bind_ok, q1, hcl, z_gtI, decide_eq_true hz])]
        have b1 : tx.length ≤ 16777215 := by omega
        have b2 : tx.length + 1 ≤ 16777216 := by omega
        simp [MF, hT, b1, b2]
    by_cases hop : k < 3 ∧ (T :: R').length < 40
    · -- a tuple is opened
      obtain ⟨u2, e2, S2⟩ := push_new S (σ := MF many (c1 :: t).length (tq R' ++ 40 :: sep T) o4 (some (.int k)) o6 o7) (i := 2) rfl (by omega)
      refine ⟨c1, u2, [] :: T :: R', (tq R' ++ 40 :: sep T) ++ [40], some (.int k), o6, o7, ?_, hd1, S2, ⟨by simp, by simp only [List.length_cons] at hop ⊢; omega, fun T' R'' e => ?_, fun T' hT' => ?_, fun T' hT' => ?_, ?_, by simp only [List.length_append, List.length_cons, List.length_nil] at hsl ⊢; omega⟩⟩
      · show sSeq _ _ _ _ = _
        rw [first, if_f hcond, blank]
        rw [if_t (h1 := (c1 :: t) ++ u) (by
          have hz : ((T :: R').length : Int) < 40 := by omega
          have := S.len
          simp only [z_tAnd, z_tB, z_eOp2, z_eCall, z_aCons, z_aNil, z_eVar, z_eC, MF, List.getElem?_cons_zero, List.getElem?_cons_succ, Res.bind_ok, z_ltI, decide_eq_true hop.1, this, decide_eq_true hz]
          rfl)]
        rw [seq_nx e2]
        have b1 : (tq R' ++ 40 :: sep T).length + 1 ≤ 16777216 := by omega
        generalize tq R' ++ 40 :: sep T = X at b1
        have b2 : X.length ≤ 16777215 := by omega
        simp [MF, b1, b2]
      · cases e
        rw [txt_open]
      · rcases List.mem_cons.mp hT' with rfl | h
        · rfl
        · exact m.good T' h
      · rcases List.mem_cons.mp hT' with rfl | h
        · simp
        · have := m.rowl T' h
          omega
      · have : rowsT ([] :: T :: R') = rowsT (T :: R') := by simp [tns]
        rw [this]
        simp only [List.length_cons] at hcnt ⊢
        omega
    · -- a leaf
      obtain ⟨v, c2, lv, hd2, e2⟩ := leafmade_ok (t := t ++ u) hd1
      have S : Stk (c2 :: t).length u 1 (T :: R') := S
      obtain ⟨u2, e3, S2⟩ := app_top S (σ := MF many (c2 :: t).length (tq R' ++ 40 :: sep T) o4 (some (.int k)) o6 (some (.tup [v, .str (W v)]))) (i := 2) (e := eOp2 oIx (eVar 7) (eC (.int 0))) (v := v) rfl rfl (by omega)
      have lvl := lv.len
      refine ⟨c2, u2, (T ++ [v]) :: R', (tq R' ++ 40 :: sep T) ++ W v, some (.int k), o6, some (.tup [v, .str (W v)]), ?_, hd2, S2, ⟨by simp, by simp only [List.length_cons] at hfew ⊢; omega, fun T' R'' e => ?_, fun T' hT' => ?_, fun T' hT' => ?_, ?_, by simp only [List.length_append, List.length_cons] at hsl ⊢; omega⟩⟩
      · show sSeq _ _ _ _ = _
        rw [first, if_f hcond, blank]
        rw [if_f (h1 := (c1 :: t) ++ u) (by
          have := S.len
          by_cases hk3 : k < 3
          · have hz : ¬ ((T :: R').length : Int) < 40 := fun z => hop ⟨hk3, by omega⟩
            have hlen : cLen [.cel ((c1 :: t).length + 1)] ((c1 :: t) ++ u) = .ok (.int (T :: R').length) ((c1 :: t) ++ u) := Stk.len (h0 := c1 :: t) S
            simp only [z_tAnd, z_tB, z_eOp2, z_eCall, z_aCons, z_aNil, z_eVar, z_eC, MF, List.getElem?_cons_zero, List.getElem?_cons_succ, Res.bind_ok, z_ltI, decide_eq_true hk3, hlen, decide_eq_false hz]
            rfl
          · simp only [z_tAnd, z_tB, z_eOp2, z_eC, z_eVar, MF, List.getElem?_cons_zero, List.getElem?_cons_succ, Res.bind_ok, z_ltI, decide_eq_false hk3]
            rfl)]
        rw [seq_nx (σ1 := MF many (c2 :: t).length (tq R' ++ 40 :: sep T) o4 (some (.int k)) o6 (some (.tup [v, .str (W v)]))) (h1 := (c2 :: t) ++ u) (by
          have e2 : m__law_leaf_made [.cel 0] ((c1 :: t) ++ u) = .ok (.tup [v, .str (W v)]) ((c2 :: t) ++ u) := e2
          simp only [MF, z_sAsg, z_eCall, z_aCons, z_aNil, z_eVar, List.getElem?_cons_zero, Res.bind_ok, e2]
          rfl)]
        rw [seq_nx e3]
        have b1 : (tq R' ++ 40 :: sep T).length + (W v).length ≤ 16777216 := by omega
        generalize tq R' ++ 40 :: sep T = X at b1
        simp [MF, atI_nat, b1]
      · cases e
        rw [txt_leaf]
      · rcases List.mem_cons.mp hT' with rfl | h
        · rw [goods_app, hgT]
          simp only [goods, lv.good]
          rfl
        · exact m.good T' (by simp [h])
      · rcases List.mem_cons.mp hT' with rfl | h
        · simp only [List.length_append, List.length_cons, List.length_nil]
          omega
        · have := m.rowl T' (by simp [h])
          omega
      · have : rowsT ((T ++ [v]) :: R') = rowsT (T :: R') := by
          simp only [rowsT_cons, tns_app, tns, tn_leaf lv.leaf]
          omega
        rw [this]
        simp only [List.length_cons] at hcnt ⊢
        omega
end Lk94

end

section
set_option maxHeartbeats 4000000
namespace Lk94
open Mi MiL Cd
theorem stk_bot {h0 u : AH} {r : Nat} {T : List AV} (s : Stk h0.length u r [T]) : ∃ a, oIx (.cel (h0.length + r)) (.int 0) (h0 ++ u) = .ok (.cel (h0.length + a)) (h0 ++ u) ∧ cTuple [.cel (h0.length + a)] (h0 ++ u) = .ok (.tup T) (h0 ++ u) := by
  obtain ⟨as, h1, h2, h3⟩ := s
  cases as with
  | nil => exact h3.elim
  | cons a as =>
    cases as with
    | cons b as => exact h3.2.elim
    | nil =>
      refine ⟨a, ?_, z_tupleC ?_⟩
      · rw [z_ixC, get_rel, h1]
        simp [atI, atN]
      · rw [get_rel]
        exact h3.1
theorem made_loop {t : AH} {many : Nat} (hm : many ≤ 100) {c : HC} (hd : Dr c) : ∃ c' u' R' tx' o4 o5 o6 o7, forL (gNm 4) s__law_made_0 (rng 0 many) (MF many (c :: t).length [40] none none none none) ((c :: t) ++ [.lst [], .lst [.cel (c :: t).length]]) = .nx (MF many (c' :: t).length tx' o4 o5 o6 o7) ((c' :: t) ++ u') ∧ Dr c' ∧ Stk (c' :: t).length u' 1 R' ∧ MI many many R' tx' := by
  obtain ⟨σ', h', e, c', u', R', tx', o4, o5, o6, o7, rfl, rfl, hd', S, m⟩ := forL_inv (g := gNm 4) (b := s__law_made_0) (fun i σ h => ∃ c u R tx o4 o5 o6 o7, h = (c :: t) ++ u ∧ σ = MF many (c :: t).length tx o4 o5 o6 o7 ∧ Dr c ∧ Stk (c :: t).length u 1 R ∧ MI i i R tx)
    (rng 0 many) 0 (MF many (c :: t).length [40] none none none none) ((c :: t) ++ [.lst [], .lst [.cel (c :: t).length]])
    ⟨c, _, [[]], [40], none, none, none, none, rfl, rfl, hd, stk_one _, ⟨by simp, by simp, fun T R' e => by cases e; rfl, fun T hT => by simp at hT; subst hT; rfl, fun T hT => by simp at hT; subst hT; simp, by simp [rowsT, tns], by simp⟩⟩ (fun i x σ h hx hI => by
      obtain ⟨c1, u1, R1, tx1, o4, o5, o6, o7, rfl, rfl, hd1, S1, m1⟩ := hI
      obtain ⟨hi, rfl⟩ := rng_get hx
      rw [Nat.zero_add] at m1 ⊢
      obtain ⟨c2, u2, R2, tx2, p5, p6, p7, e, hd2, S2, m2⟩ := made_step (many := many) (o4 := some (.int (0 + (i : Int)))) (o5 := o5) (o6 := o6) (o7 := o7) hd1 S1 m1 (by omega) (by omega)
      exact ⟨_, _, _, _, rfl, .inl e, c2, u2, R2, tx2, _, _, _, _, rfl, rfl, hd2, S2, m2⟩)
  rw [Nat.zero_add, rng_len] at m
  exact ⟨c', u', R', tx', o4, o5, o6, o7, e, hd', S, m⟩
/-- the rows while they are closed -/
structure CI (n i : Nat) (R : List (List AV)) (tx : List Nat) (L : Nat) : Prop where
  txt : ∀ T R', R = T :: R' → tx = tq R' ++ 40 :: Ws T
  good : ∀ T ∈ R, goods T = true
  rowl : ∀ T ∈ R, T.length ≤ n
  cnt : rowsT R + (R.length - 1) ≤ i
  len : tx.length ≤ L
theorem close_loop {t : AH} {many n i : Nat} {c : HC} (hn : n ≤ 1000) : ∀ (R : List (List AV)) (T : List AV) (u : AH) (tx : List Nat) (L : Nat) (o4 o5 o6 o7 : Option AV) (ks : List AV), ks.length = R.length → Stk (c :: t).length u 1 (T :: R) → CI (n + L) i (T :: R) tx L → L + R.length ≤ 100000 →
    ∃ u' T' tx' p4 p5 p6 p7, forL (gNm 4) s__law_made_1 ks (MF many (c :: t).length tx o4 o5 o6 o7) ((c :: t) ++ u) = .nx (MF many (c :: t).length tx' p4 p5 p6 p7) ((c :: t) ++ u') ∧ Stk (c :: t).length u' 1 [T'] ∧ CI (n + L + R.length) i [T'] tx' (L + R.length)
  | [], T, u, tx, L, o4, o5, o6, o7, [], _, S, C, _ => ⟨u, T, tx, o4, o5, o6, o7, rfl, S, C⟩
  | T2 :: R, T, u, tx, L, o4, o5, o6, o7, x :: ks, hk, S, C, hL => by
    have hl := C.len
    have hT2 := C.rowl T2 (by simp)
    have hTg := C.good T (by simp)
    simp only [List.length_cons] at hk hL
    obtain ⟨u2, e2, S2⟩ := close_step (c := c) (t := t) (many := many) (tx := tx) (o4 := some x) (o5 := o5) (o6 := o6) (o7 := o7) S (by omega) (by omega)
    have C2 : CI (n + (L + 1)) i ((T2 ++ [.tup T]) :: R) (tx ++ [41]) (L + 1) := by
      refine ⟨fun T' R'' e => ?_, fun T' hT' => ?_, fun T' hT' => ?_, ?_, by simp only [List.length_append, List.length_cons, List.length_nil]; omega⟩
      · cases e
        rw [C.txt T (T2 :: R) rfl, txt_close]
      · rcases List.mem_cons.mp hT' with rfl | h
        · rw [goods_app, C.good T2 (by simp)]
          simp only [goods, good_tup, hTg]
          rfl
        · exact C.good T' (by simp [h])
      · rcases List.mem_cons.mp hT' with rfl | h
        · simp only [List.length_append, List.length_cons, List.length_nil]
          omega
        · have := C.rowl T' (by simp [h])
          omega
      · have hcnt := C.cnt
        rw [rowsT_two]
        simp only [List.length_cons] at hcnt ⊢
        omega
    obtain ⟨u', T', tx', p4, p5, p6, p7, e3, S3, C3⟩ := close_loop hn R (T2 ++ [.tup T]) u2 (tx ++ [41]) (L + 1) (some x) o5 (some (.tup T)) o7 ks (by omega) S2 C2 (by omega)
    refine ⟨u', T', tx', p4, p5, p6, p7, ?_, S3, ?_⟩
    · rw [← e3]
      rw [forL]
      have e0 : gNm 4 x (MF many (c :: t).length tx o4 o5 o6 o7) ((c :: t) ++ u) = some (MF many (c :: t).length tx (some x) o5 o6 o7, (c :: t) ++ u) := rfl
      rw [e0]
      dsimp only
      have e2 : s__law_made_1 (MF many (c :: t).length tx (some x) o5 o6 o7) ((c :: t) ++ u) = _ := e2
      rw [e2]
    · rw [show n + L + (T2 :: R).length = n + (L + 1) + R.length by simp only [List.length_cons]; omega, show L + (T2 :: R).length = L + 1 + R.length by simp only [List.length_cons]; omega]
      exact C3
theorem made_ok {t : AH} {many : Nat} (hm : many ≤ 100) {c : HC} (hd : Dr c) : ∃ v c' u', m__law_made [.cel 0, .int (many : Int)] (c :: t) = .ok (.tup [v, .str (W v)]) ((c' :: t) ++ u') ∧ Dr c' ∧ Made v (42 * many + 50) (many + 1) := by
  obtain ⟨c1, u1, R1, tx1, o4, o5, o6, o7, e1, hd1, S1, m1⟩ := made_loop (t := t) hm hd
  obtain ⟨T, R, rfl⟩ : ∃ T R', R1 = T :: R' := by
    cases R1 with
    | nil => exact absurd rfl m1.ne
    | cons T R' => exact ⟨T, R', rfl⟩
  have hfew := m1.few
  simp only [List.length_cons] at hfew
  have hB : inBig (many : Int) = true := inBig_of (by omega) (by omega)
  obtain ⟨u2, T', tx', p4, p5, p6, p7, e2, S2, C2⟩ := close_loop (c := c1) (t := t) (many := many) (n := many) (i := many) (by omega) R T u1 tx1 (1 + 42 * many) o4 o5 o6 o7 (rng 0 R.length) (by simp) S1 ⟨m1.txt, m1.good, fun T hT => by have := m1.rowl T hT; omega, m1.cnt, m1.len⟩ (by omega)
  have htx : tx' = 40 :: Ws T' := C2.txt T' [] rfl
  have hl := C2.len
  have hc := C2.cnt
  have hW : W (.tup T') = tx' ++ [41] := by rw [W_tup, htx]; rfl
  have hr : rowsT [T'] = tns T' := by simp [rowsT]
  refine ⟨.tup T', c1, u2, ?_, hd1, ⟨by rw [good_tup]; exact C2.good T' (by simp), ?_, ?_⟩⟩
  · refine def_rt rfl ?_
    show sSeq _ _ [some (.cel 0), some (.int (many : Int)), none, none, none, none, none, none] _ = _
    rw [seq_nx (σ1 := [some (.cel 0), some (.int (many : Int)), some (.cel ((c :: t).length + 1)), none, none, none, none, none]) (h1 := (c :: t) ++ [.lst [], .lst [.cel (c :: t).length]]) (by simp)]
    rw [seq_nx (σ1 := MF many (c :: t).length [40] none none none none) (h1 := (c :: t) ++ [.lst [], .lst [.cel (c :: t).length]]) (by rfl)]
    rw [seq_nx (for_seq (h1 := (c :: t) ++ [.lst [], .lst [.cel (c :: t).length]]) (xs := rng 0 many) (by simp [MF, hB]) e1)]
    have hlen : cLen [.cel ((c1 :: t).length + 1)] ((c1 :: t) ++ u1) = .ok (.int (T :: R).length) ((c1 :: t) ++ u1) := Stk.len (h0 := c1 :: t) S1
    have hB2 : inBig ((((T :: R).length : Nat) : Int) - 1) = true := inBig_of (by simp only [List.length_cons]; omega) (by simp only [List.length_cons]; omega)
    have hT2 : ((((T :: R).length : Nat) : Int) - 1).toNat = R.length := by simp only [List.length_cons]; omega
    rw [seq_nx (for_seq (h1 := (c1 :: t) ++ u1) (xs := rng 0 R.length) (by
      simp only [z_iRng1, z_eOp2, z_eCall, z_aCons, z_aNil, z_eVar, z_eC, MF, List.getElem?_cons_zero, List.getElem?_cons_succ, Res.bind_ok, hlen, z_subI, hB2, if_true, hT2]) e2)]
    obtain ⟨a, q1, q2⟩ := stk_bot S2
    refine ret_ok ?_
    have b1 : tx'.length + 1 ≤ 16777216 := by omega
    have b2 : tx'.length + [41].length ≤ 16777216 := b1
    simp only [z_eTup, z_eOp2, z_eCall, z_aCons, z_aNil, z_eVar, z_eC, MF, List.getElem?_cons_zero, List.getElem?_cons_succ, Res.bind_ok, q1, q2, z_addS, line_is, if_pos b2, hW]
    rfl
  · rw [hW]
    simp only [List.length_append, List.length_cons, List.length_nil]
    omega
  · simp only [Cd.tn]
    rw [hr] at hc
    omega
end Lk94

end

section
set_option maxHeartbeats 4000000
namespace Lk94
open Mi MiL Cd
/-! ### texts turned -/
def Turn (s s' : List Nat) : Prop := ∃ (a : Nat) (g : Nat), s' = s.take a ++ g :: s.drop a ∨ s' = s.take a ++ s.drop (a + 1) ∨ s' = s.take a ++ g :: s.drop (a + 1) ∨ s' = s.take a
theorem Turn.len {s s' : List Nat} (t : Turn s s') : s'.length ≤ s.length + 1 := by
  obtain ⟨a, g, rfl | rfl | rfl | rfl⟩ := t <;> simp <;> omega
theorem turned_ok {c : HC} {t : AH} {s : List Nat} (hd : Dr c) (hl : s.length ≤ 100000) : ∃ s' c', m__law_turned [.cel 0, .str s] (c :: t) = .ok (.str s') (c' :: t) ∧ Dr c' ∧ Turn s s' := by
  obtain ⟨a, c1, a0, a1, hd1, e1⟩ := draw_ok (t := t) (many := (s.length : Int) + 1) hd (by omega) (by omega)
  obtain ⟨a, rfl⟩ := Int.eq_ofNat_of_zero_le a0
  obtain ⟨x, c2, hx, hd2, e2⟩ := pick_str (t := t) (s := lawSigns) hd1 (by decide) (by decide)
  obtain ⟨g, c3, hg, hd3, e3⟩ := pick_str (t := t) (s := [40, 41, 39, 32, 45, 48, 49, 55, 57, 59, 10, 9] ++ [x]) hd2 (by simp) (by simp)
  obtain ⟨k, c4, k0, k1, hd4, e4⟩ := draw_ok (t := t) (many := 4) hd3 (by omega) (by omega)
  have hlen : s.length ≤ 16777216 := by omega
  have h1 : (s.take a).length ≤ s.length := by simp; omega
  have h2 : (s.drop a).length ≤ s.length := by simp
  have h3 : (s.drop (a + 1)).length ≤ s.length := by simp
  have c1' : cut s none (some (a : Int)) = s.take a := by rw [cut_to (by omega)]; rfl
  have c2' : cut s (some (a : Int)) none = s.drop a := by rw [cut_from (by omega)]; rfl
  have c3' : cut s (some ((a : Int) + 1)) none = s.drop (a + 1) := by rw [cut_from (by omega)]; rfl
  have first : ∀ tl, sSeq (sAsg (eCall m__law_draw (aCons (eVar 0) (aCons (eOp2 oAdd (eCall cLen (aCons (eVar 1) (aNil))) (eC (.int 1))) (aNil)))) (gNm 2)) (sSeq (sAsg (eCall m__law_pick (aCons (eVar 0) (aCons (eOp2 oAdd (eC (.str [40, 41, 39, 32, 45, 48, 49, 55, 57, 59, 10, 9])) (eCall m__law_pick (aCons (eVar 0) (aCons (eCall m__law_signs aNil) (aNil))))) (aNil)))) (gNm 3)) (sSeq (sAsg (eCall m__law_draw (aCons (eVar 0) (aCons (eC (.int 4)) (aNil)))) (gNm 4)) tl)) [some (.cel 0), some (.str s), none, none, none] (c :: t) = tl [some (.cel 0), some (.str s), some (.int (a : Int)), some (.str [g]), some (.int k)] (c4 :: t) := by
    intro tl
    rw [seq_nx (σ1 := [some (.cel 0), some (.str s), some (.int (a : Int)), none, none]) (h1 := c1 :: t) (by simp [hlen, e1])]
    rw [seq_nx (σ1 := [some (.cel 0), some (.str s), some (.int (a : Int)), some (.str [g]), none]) (h1 := c3 :: t) (by
      have e3 : m__law_pick [.cel 0, .str [40, 41, 39, 32, 45, 48, 49, 55, 57, 59, 10, 9, x]] (c2 :: t) = .ok (.str [g]) (c3 :: t) := e3
      simp only [z_sAsg, z_eCall, z_aCons, z_aNil, z_eVar, z_eOp2, z_eC, List.getElem?_cons_zero, Res.bind_ok, signs_ok, e2, z_addS, line_is]
      simp [e3])]
    exact seq_nx (by simp [e4])
  have b1 : (s.take a).length + 1 ≤ 16777216 := by omega
  have b2 : (s.take a).length + 1 + (s.drop a).length ≤ 16777216 := by omega
  have b3 : (s.take a).length + 1 + (s.drop (a + 1)).length ≤ 16777216 := by omega
  have b4 : (s.take a).length + (s.drop (a + 1)).length ≤ 16777216 := by omega
  generalize hA : s.take a = A at *
  generalize hD : s.drop a = D at *
  generalize hE : s.drop (a + 1) = E at *
  have d1 : A.length + [g].length ≤ 16777216 := b1
  have d2 : (A ++ [g]).length + D.length ≤ 16777216 := by simpa using b2
  have d3 : (A ++ [g]).length + E.length ≤ 16777216 := by simpa using b3
  by_cases h0 : k = 0
  · refine ⟨A ++ g :: D, c4, ?_, hd4, a, g, .inl (by rw [hA, hD])⟩
    refine def_rt rfl ?_
    show sSeq _ _ [some (.cel 0), some (.str s), none, none, none] _ = _
    rw [first]
    refine seq_rt ?_
    rw [if_t (h1 := c4 :: t) (by simp [h0])]
    refine ret_ok ?_
    simp only [z_eOp2, z_eSl, z_oNo, z_oAt, z_eVar, List.getElem?_cons_zero, List.getElem?_cons_succ, Res.bind_ok, z_slS, line_is, if_pos hlen, c1', c2', z_addS, if_pos d1, if_pos d2]
    simp
  · by_cases h1 : k = 1
    · refine ⟨A ++ E, c4, ?_, hd4, a, g, .inr (.inl (by rw [hA, hE]))⟩
      refine def_rt rfl ?_
      show sSeq _ _ [some (.cel 0), some (.str s), none, none, none] _ = _
      rw [first]
      rw [seq_nx (if_no (h1 := c4 :: t) (by simp [h0]))]
      refine seq_rt ?_
      rw [if_t (h1 := c4 :: t) (by simp [h1])]
      refine ret_ok ?_
      simp only [z_eOp2, z_eSl, z_oNo, z_oAt, z_eVar, z_eC, z_addI, List.getElem?_cons_zero, List.getElem?_cons_succ, Res.bind_ok, z_slS, line_is, if_pos hlen, c1', c3', z_addS, if_pos b4]
    · by_cases h2 : k = 2
      · refine ⟨A ++ g :: E, c4, ?_, hd4, a, g, .inr (.inr (.inl (by rw [hA, hE])))⟩
        refine def_rt rfl ?_
        show sSeq _ _ [some (.cel 0), some (.str s), none, none, none] _ = _
        rw [first]
        rw [seq_nx (if_no (h1 := c4 :: t) (by simp [h0]))]
        rw [seq_nx (if_no (h1 := c4 :: t) (by simp [h1]))]
        refine seq_rt ?_
        rw [if_t (h1 := c4 :: t) (by simp [h2])]
        refine ret_ok ?_
        simp only [z_eOp2, z_eSl, z_oNo, z_oAt, z_eVar, z_eC, z_addI, List.getElem?_cons_zero, List.getElem?_cons_succ, Res.bind_ok, z_slS, line_is, if_pos hlen, c1', c3', z_addS, if_pos d1, if_pos d3]
        simp
      · refine ⟨A, c4, ?_, hd4, a, g, .inr (.inr (.inr (by rw [hA])))⟩
        refine def_rt rfl ?_
        show sSeq _ _ [some (.cel 0), some (.str s), none, none, none] _ = _
        rw [first]
        rw [seq_nx (if_no (h1 := c4 :: t) (by simp [h0]))]
        rw [seq_nx (if_no (h1 := c4 :: t) (by simp [h1]))]
        rw [seq_nx (if_no (h1 := c4 :: t) (by simp [h2]))]
        refine ret_ok ?_
        simp only [z_eSl, z_oNo, z_oAt, z_eVar, List.getElem?_cons_zero, List.getElem?_cons_succ, Res.bind_ok, z_slS, line_is, if_pos hlen, c1']
/-! ### depths -/
/-- a text whose value, if it is one, is not too deep -/
def Shal (s : List Nat) : Prop := ∀ v, P s = .inr v → tn v ≤ 199
theorem og_len : ∀ (s : List Nat) (x : Bool), og x s ≤ s.length
  | [], x => by simp [og]
  | c :: s, x => by
    have h1 := og_app [c] s x
    have h2 := og_len s (par x [c])
    have h3 : og x [c] ≤ 1 := by
      unfold og
      unfold og
      split <;> simp <;> split <;> omega
    simp only [List.cons_append, List.nil_append] at h1
    simp only [List.length_cons]
    omega
theorem shal_og {s : List Nat} (h : og false s ≤ 199) : Shal s := fun v hv => by
  have := (P_sound hv).2.2.1
  omega
theorem shal_par {s : List Nat} (h : par false s = true) : Shal s := fun v hv => by
  have := (P_sound hv).2.2.2
  rw [h] at this
  cases this
theorem par_flip : ∀ (s : List Nat) (x : Bool), par (!x) s = !(par x s)
  | [], x => rfl
  | c :: s, x => by
    have h1 := par_app [c] s x
    have h2 := par_app [c] s (!x)
    simp only [List.cons_append, List.nil_append] at h1 h2
    rw [h1, h2]
    have : par (!x) [c] = !(par x [c]) := by
      unfold par
      unfold par
      split <;> rfl
    rw [this, par_flip s]
theorem par_one (x : Bool) (g : Nat) : par x [g] = if g = 39 then !x else x := by
  unfold par
  unfold par
  rfl
theorem og_one (x : Bool) (g : Nat) : og x [g] ≤ 1 := og_len [g] x
/-- a quote first -/
theorem quote_run : ∀ (r w : List Nat) (n : Nat) (v : AV), mrun ⟨.text, w, [[]]⟩ n r = .inr v → tn v = 0
  | [], w, n, v, h => by
    simp [mrun, fin] at h
  | c :: r, w, n, v, h => by
    have h : (match step ⟨.text, w, [[]]⟩ c with | some q' => mrun q' (n + 1) r | none => .inl n) = .inr v := h
    by_cases hc : c = 39
    · have e : step ⟨.text, w, [[]]⟩ c = some ⟨.behind, w, [[.str (repC 59 [10] w)]]⟩ := by
        unfold step
        simp [hc, push]
      rw [e] at h
      dsimp only at h
      cases r with
      | nil =>
        simp [mrun, fin, bottom] at h
        subst h
        simp only [tn]
      | cons d r =>
        have e2 : step ⟨.behind, w, [[.str (repC 59 [10] w)]]⟩ d = none := by
          unfold step
          simp [shut]
        have h : (match step ⟨.behind, w, [[.str (repC 59 [10] w)]]⟩ d with | some q' => mrun q' (n + 1 + 1) r | none => .inl (n + 1)) = .inr v := h
        rw [e2] at h
        cases h
    · by_cases hs : (sgn c || c == 59) = true
      · have e : step ⟨.text, w, [[]]⟩ c = some ⟨.text, w ++ [c], [[]]⟩ := by
          unfold step
          dsimp only
          rw [if_neg hc, if_pos hs]
        rw [e] at h
        exact quote_run r _ _ v h
      · have e : step ⟨.text, w, [[]]⟩ c = none := by
          unfold step
          dsimp only
          rw [if_neg hc, if_neg hs]
        rw [e] at h
        cases h
theorem shal_quote (r : List Nat) : Shal (39 :: r) := fun v hv => by
  have : P (39 :: r) = mrun ⟨.text, [], [[]]⟩ 1 r := rfl
  rw [this] at hv
  rw [quote_run r [] 1 v hv]
  omega
/-- balanced, not too deep -/
def Bal (N : Nat) (s : List Nat) : Prop := par false s = false ∧ og false s ≤ N
theorem Made.bal {v : AV} {B N : Nat} (m : Made v B N) : Bal N (W v) := by
  have := P_sound (P_W m.good)
  exact ⟨this.2.2.2, by rw [← this.2.2.1]; exact m.tn⟩
theorem bal_turn {N : Nat} {s s' : List Nat} (b : Bal N s) (hN : N ≤ 198) (t : Turn s s') : Shal s' := by
  obtain ⟨hp, ho⟩ := b
  obtain ⟨a, g, ht⟩ := t
  have hs : s = s.take a ++ s.drop a := (List.take_append_drop a s).symm
  have p1 := par_app (s.take a) (s.drop a) false
  have o1 := og_app (s.take a) (s.drop a) false
  rw [← hs] at p1 o1
  -- the sign that goes
  have tail : ∀ (m : List Nat), m.length ≤ 1 → (∃ d, s.drop a = d :: s.drop (a + 1)) ∨ s.drop a = [] := fun _ _ => by
    cases z : s.drop a with
    | nil => exact .inr rfl
    | cons d r =>
      left
      refine ⟨d, ?_⟩
      rw [← List.drop_drop, z]
      rfl
  have ins : ∀ (b : List Nat), og false (s.take a) + og (par false (s.take a)) b ≤ 198 → (g ≠ 39 → Shal (s.take a ++ g :: b)) := by
    intro b hb hg
    refine shal_og ?_
    rw [og_app, show g :: b = [g] ++ b from rfl, og_app, par_one, if_neg hg]
    have := og_one (par false (s.take a)) g
    omega
  rcases ht with rfl | rfl | rfl | rfl
  · by_cases hg : g = 39
    · refine shal_par ?_
      rw [par_app, show g :: s.drop a = [g] ++ s.drop a from rfl, par_app, par_one, if_pos hg, par_flip, ← p1, hp]
      rfl
    · exact ins _ (by omega) hg
  · rcases tail [] (by simp) with ⟨d, hd⟩ | hd
    · rw [hd, show d :: s.drop (a + 1) = [d] ++ s.drop (a + 1) from rfl, par_app, par_one] at p1
      rw [hd, show d :: s.drop (a + 1) = [d] ++ s.drop (a + 1) from rfl, og_app, par_one] at o1
      by_cases h39 : d = 39
      · refine shal_par ?_
        rw [if_pos h39, par_flip, hp] at p1
        rw [par_app]
        cases z : par (par false (s.take a)) (s.drop (a + 1)) with
        | true => rfl
        | false => rw [z] at p1; cases p1
      · refine shal_og ?_
        rw [if_neg h39] at o1
        rw [og_app]
        omega
    · have : s.drop (a + 1) = [] := by rw [← List.drop_drop, hd]; rfl
      rw [this, List.append_nil]
      exact shal_og (by omega)
  · rcases tail [] (by simp) with ⟨d, hd⟩ | hd
    · rw [hd, show d :: s.drop (a + 1) = [d] ++ s.drop (a + 1) from rfl, par_app, par_one] at p1
      rw [hd, show d :: s.drop (a + 1) = [d] ++ s.drop (a + 1) from rfl, og_app, par_one] at o1
      by_cases h39 : d = 39
      · by_cases hg : g = 39
        · refine shal_og ?_
          rw [og_app, show g :: s.drop (a + 1) = [g] ++ s.drop (a + 1) from rfl, og_app, par_one, if_pos hg]
          rw [if_pos h39] at o1
          have := og_one (par false (s.take a)) g
          omega
        · refine shal_par ?_
          rw [if_pos h39, par_flip, hp] at p1
          rw [par_app, show g :: s.drop (a + 1) = [g] ++ s.drop (a + 1) from rfl, par_app, par_one, if_neg hg]
          cases z : par (par false (s.take a)) (s.drop (a + 1)) with
          | true => rfl
          | false => rw [z] at p1; cases p1
      · rw [if_neg h39] at o1 p1
        by_cases hg : g = 39
        · refine shal_par ?_
          rw [par_app, show g :: s.drop (a + 1) = [g] ++ s.drop (a + 1) from rfl, par_app, par_one, if_pos hg, par_flip, ← p1, hp]
          rfl
        · exact ins _ (by omega) hg
    · have he : s.drop (a + 1) = [] := by rw [← List.drop_drop, hd]; rfl
      have htk : s.take a = s := by
        have := hs
        rw [hd, List.append_nil] at this
        exact this.symm
      rw [he]
      refine shal_og ?_
      rw [og_app]
      have := og_one (par false (s.take a)) g
      omega
  · exact shal_og (by omega)
theorem short_shal {s : List Nat} (h : s.length ≤ 199) : Shal s := shal_og (Nat.le_trans (og_len s false) h)
/-- the text itself, a sign behind it, ahead of it -/
theorem bal_self {N : Nat} {s : List Nat} (b : Bal N s) (hN : N ≤ 198) : Shal s := shal_og (by have := b.2; omega)
theorem bal_snoc {N : Nat} {s : List Nat} (b : Bal N s) (hN : N ≤ 198) (g : Nat) : Shal (s ++ [g]) := by
  refine shal_og ?_
  rw [og_app]
  have := og_one (par false s) g
  have := b.2
  omega
theorem bal_cons {N : Nat} {s : List Nat} (b : Bal N s) {g : Nat} (hg : g ≠ 39) : Bal (N + 1) (g :: s) := by
  refine ⟨?_, ?_⟩
  · rw [show g :: s = [g] ++ s from rfl, par_app, par_one, if_neg hg]
    exact b.1
  · rw [show g :: s = [g] ++ s from rfl, og_app, par_one, if_neg hg]
    have := og_one false g
    have := b.2
    omega
theorem quote_turn {N : Nat} {s s' : List Nat} (b : Bal N s) (hN : N ≤ 197) (t : Turn (39 :: s) s') : Shal s' := by
  obtain ⟨a, g, ht⟩ := t
  cases a with
  | succ a =>
    rcases ht with rfl | rfl | rfl | rfl <;> exact shal_quote _
  | zero =>
    rcases ht with rfl | rfl | rfl | rfl
    · show Shal (g :: 39 :: s)
      by_cases hg : g = 39
      · rw [hg]
        exact shal_quote _
      · refine shal_par ?_
        rw [show g :: 39 :: s = [g] ++ ([39] ++ s) from rfl, par_app, par_app, par_one, if_pos rfl, par_one, if_neg hg, par_flip, b.1]
        rfl
    · exact bal_self b (by omega)
    · show Shal (g :: s)
      by_cases hg : g = 39
      · rw [hg]
        exact shal_quote _
      · exact bal_self (bal_cons b hg) (by omega)
    · exact short_shal (by simp)
end Lk94

end

section
set_option maxHeartbeats 4000000
namespace Lk94
open Mi MiL Cd
/-! ### good values are trees -/
mutual
theorem good_tree : ∀ (v : AV), good v = true → (W v).length ≤ 1000000 → tree v = true
  | .tup xs, h, hl => by
    rw [good_tup] at h
    rw [W_tup] at hl
    simp only [List.length_cons, List.length_append] at hl
    show trees xs = true
    exact goods_trees xs h (by omega)
  | .non, _, _ => rfl
  | .int _, _, _ => rfl
  | .str s, _, hl => by
    rw [W_str] at hl
    simp at hl
    show decide _ = true
    exact decide_eq_true (by omega)
  | .bl _, h, _ => by simp [good] at h
  | .lst _, h, _ => by simp [good] at h
  | .scr _ _, h, _ => by simp [good] at h
  | .cel _, h, _ => by simp [good] at h
  | .xcp _ _ _, h, _ => by simp [good] at h
theorem goods_trees : ∀ (xs : List AV), goods xs = true → (Ws xs).length ≤ 1000000 → trees xs = true
  | [], _, _ => rfl
  | [x], h, hl => by
    simp only [goods, Bool.and_true] at h
    simp only [Ws] at hl
    simp only [trees, Bool.and_true]
    exact good_tree x h hl
  | x :: y :: r, h, hl => by
    rw [goods, Bool.and_eq_true] at h
    rw [Ws] at hl
    simp only [List.length_append, List.length_cons] at hl
    rw [trees, Bool.and_eq_true]
    exact ⟨good_tree x h.1 (by omega), goods_trees (y :: r) h.2 (by omega)⟩
end
mutual
theorem sz_cost : ∀ (v : AV), sz v ≤ cost v
  | .tup xs => by
    have := szs_costs xs
    simp only [sz, cost]
    omega
  | .non => by simp only [sz, cost]; omega
  | .int _ => by simp only [sz, cost]; omega
  | .str _ => by simp only [sz, cost]; omega
  | .bl _ => by simp only [sz, cost]; omega
  | .lst _ => by simp only [sz, cost]; omega
  | .scr _ _ => by simp only [sz, cost]; omega
  | .cel _ => by simp only [sz, cost]; omega
  | .xcp _ _ _ => by simp only [sz, cost]; omega
theorem szs_costs : ∀ (xs : List AV), szs xs + 1 ≤ costs xs
  | [] => by simp [szs, costs]
  | x :: r => by
    have h1 := sz_cost x
    have h2 := szs_costs r
    simp only [szs, costs]
    omega
end
theorem good_sz {v : AV} (h : good v = true) (hl : (W v).length ≤ 1000000) : sz v ≤ (W v).length := Nat.le_trans (sz_cost v) (cost_le v (good_tree v h hl)).1
mutual
theorem good_pl (d : Option Nat) : ∀ (v : AV), good v = true → pl v = true ∧ okd d v = true
  | .tup xs, h => by
    rw [good_tup] at h
    simp only [pl, okd]
    exact goods_pls d xs h
  | .non, _ => by simp only [pl, okd]; exact ⟨trivial, trivial⟩
  | .int _, _ => by simp only [pl, okd]; exact ⟨trivial, trivial⟩
  | .str s, _ => by simp only [pl, okd]; exact ⟨trivial, trivial⟩
  | .bl _, h => by simp [good] at h
  | .lst _, h => by simp [good] at h
  | .scr _ _, h => by simp [good] at h
  | .cel _, h => by simp [good] at h
  | .xcp _ _ _, h => by simp [good] at h
theorem goods_pls (d : Option Nat) : ∀ (xs : List AV), goods xs = true → pls xs = true ∧ okds d xs = true
  | [], _ => ⟨rfl, rfl⟩
  | x :: r, h => by
    rw [goods, Bool.and_eq_true] at h
    have h1 := good_pl d x h.1
    have h2 := goods_pls d r h.2
    rw [pls, okds, h1.1, h1.2, h2.1, h2.2]
    exact ⟨rfl, rfl⟩
end
/-! ### asked, refused -/
theorem read_ok {s : List Nat} {v : AV} (hl : s.length ≤ 100000) (hP : P s = .inr v) (h : AH) : ∃ u, m_read_value [.str s] h = .ok v (h ++ u) := by
  obtain ⟨u, e⟩ := readvalue_ok hl h
  rw [hP] at e
  exact ⟨u, e⟩
theorem asked_ok {s : List Nat} (hl : s.length ≤ 100000) (hs : Shal s) (h : AH) : ∃ u, m__law_asked [.str s] h = .ok (.bl true) (h ++ u) := by
  obtain ⟨u1, e1⟩ := lawread_ok hl h
  obtain ⟨u2, e2⟩ := readvalue_ok hl (h ++ u1)
  have first : ∀ t, sSeq (sAsg (eCall m__law_read (aCons (eVar 0) (aNil))) (gNm 1)) t [some (.str s), none, none, none] h = t [some (.str s), some (resV (P s)), none, none] (h ++ u1) := fun t => seq_nx (by simp [e1])
  cases hP : P s with
  | inl n =>
    rw [hP] at e2 first
    dsimp only at e2
    refine ⟨u1 ++ u2, ?_⟩
    refine def_rt rfl ?_
    show sSeq _ _ [some (.str s), none, none, none] _ = _
    rw [first]
    refine seq_rt ?_
    rw [z_sTry]
    have e3 : sAsg (eCall m_read_value (aCons (eVar 0) (aNil))) (gNm 2) [some (.str s), some (resV (.inl n)), none, none] (h ++ u1) = .ex (badX n) [some (.str s), some (resV (.inl n)), none, none] (h ++ u1 ++ u2) := by simp [e2]
    rw [e3]
    dsimp only
    have hi := is_int_ok (.int (n : Int)) (h ++ u1 ++ u2) ⟨0, rfl⟩
    rw [show h ++ (u1 ++ u2) = h ++ u1 ++ u2 by simp]
    generalize h ++ u1 ++ u2 = hh at hi ⊢
    simp [handle, sub, names, badX, suEnd, resV, badV, atI_nat, hi, isI, wipe]
  | inr v =>
    rw [hP] at e2 first
    dsimp only at e2
    obtain ⟨hW, hg, _, _⟩ := P_sound hP
    have hWl : (W v).length ≤ 100000 := by rw [hW]; exact hl
    have hsz := good_sz hg (by omega)
    have e4 : m__law_same 200 [v, v] (h ++ u1 ++ u2) = .ok (.bl true) (h ++ u1 ++ u2) := same_deep 199 v (h ++ u1 ++ u2) hg (hs v hP) (by omega)
    obtain ⟨u3, e5⟩ := write_good (good_tree v hg (by omega)) (by omega) hg (h ++ u1 ++ u2)
    rw [hW] at e5
    refine ⟨u1 ++ u2 ++ u3, ?_⟩
    refine def_rt rfl ?_
    show sSeq _ _ [some (.str s), none, none, none] _ = _
    rw [first]
    have e3 : sAsg (eCall m_read_value (aCons (eVar 0) (aNil))) (gNm 2) [some (.str s), some (resV (.inr v)), none, none] (h ++ u1) = .nx [some (.str s), some (resV (.inr v)), some v, none] (h ++ u1 ++ u2) := by simp [e2]
    rw [seq_nx (σ1 := [some (.str s), some (resV (.inr v)), some v, none]) (h1 := h ++ u1 ++ u2) (by
      rw [z_sTry, e3])]
    refine ret_ok ?_
    rw [show h ++ (u1 ++ u2 ++ u3) = h ++ u1 ++ u2 ++ u3 by simp]
    generalize h ++ u1 ++ u2 = hh at e4 e5 ⊢
    simp [resV, atI_nat, atI, atN, e4, e5]
theorem refuses_ok {v : AV} (ht : tree v = true) (hl : (W v).length ≤ 900000) (hg : good v = false) (h : AH) : ∃ u, m__law_refuses [v] h = .ok (.bl true) (h ++ u) := by
  obtain ⟨u, e⟩ := write_bad ht hl hg h
  refine ⟨u, ?_⟩
  refine def_rt rfl ?_
  show sSeq _ _ [some v, none] _ = _
  refine seq_rt ?_
  rw [z_sTry]
  have e3 : sDrop (eCall m_write_value (aCons (eVar 0) (aNil))) [some v, none] h = .ex (badX 0) [some v, none] (h ++ u) := by simp [e]
  rw [e3]
  dsimp only
  have hi := is_int_ok (.int ((0 : Nat) : Int)) (h ++ u) ⟨0, rfl⟩
  simp only [Int.natCast_zero] at hi
  simp [handle, sub, names, badX, suEnd, hi, isI, wipe]
end Lk94

end

section
set_option maxHeartbeats 4000000
namespace Lk94
open Mi MiL Cd
theorem ix0 {a : AV} {r : List AV} {h : AH} : oIx (.tup (a :: r)) (.int 0) h = .ok a h := by simp [atI, atN]
theorem ix1 {a b : AV} {r : List AV} {h : AH} : oIx (.tup (a :: b :: r)) (.int 1) h = .ok b h := by
  have : atI (a :: b :: r) ((1 : Nat) : Int) = some b := by rw [atI_nat]; rfl
  rw [z_ixT, show (1 : Int) = ((1 : Nat) : Int) from rfl, this]
theorem addT_ok {s t : List AV} {h : AH} (hl : s.length + t.length ≤ 16777216) : oAdd (.tup s) (.tup t) h = .ok (.tup (s ++ t)) h := by
  rw [z_addT, if_pos (by rw [line_is]; exact hl)]
theorem addS_ok {s t : List Nat} {h : AH} (hl : s.length + t.length ≤ 16777216) : oAdd (.str s) (.str t) h = .ok (.str (s ++ t)) h := by
  rw [z_addS, if_pos (by rw [line_is]; exact hl)]
/-! ### odd values -/
theorem odd_ok {c : HC} {t : AH} {v : AV} (hd : Dr c) (hg : good v = true) : ∃ w c', m__law_odd [.cel 0, v] (c :: t) = .ok w (c' :: (t ++ [.dic false []])) ∧ Dr c' ∧ pl w = false ∧ okd (some (t.length + 1)) w = true ∧ sz w ≤ 3 * sz v + 20 := by
  have hgo := (good_pl (some (t.length + 1)) v hg).2
  obtain ⟨b, c1, hb, hd1, e1⟩ := pick_ok (t := t ++ [.dic false []]) (v := .lst [.bl true, .bl false, .lst [], .lst [v], .cel (t.length + 1), .lst [.int 1, .tup []]]) hd (fun _ => rfl) (by simp) (by simp) (by simp)
  have hb2 : pl b = false ∧ okd (some (t.length + 1)) b = true ∧ sz b = 1 := by
    simp only [List.mem_cons, List.mem_nil_iff, or_false] at hb
    rcases hb with rfl | rfl | rfl | rfl | rfl | rfl <;> simp [pl, okd, sz]
  obtain ⟨b1, b2, b3⟩ := hb2
  obtain ⟨a, c2, a0, a1, hd2, e2⟩ := draw_ok (t := t ++ [.dic false []]) (many := 5) hd1 (by omega) (by omega)
  obtain ⟨a, rfl⟩ := Int.eq_ofNat_of_zero_le a0
  -- the row
  have hrow : okds (some (t.length + 1)) [v, .int 1, .str [], .non] = true := by simp [okds, okd, hgo]
  have hsz : szs [v, .int 1, .str [], .non] = sz v + 3 := by simp [szs, sz]
  generalize hR : ([v, .int 1, .str [], .non] : List AV) = R at hrow hsz
  have hRl : R.length = 4 := by rw [← hR]; rfl
  have k1 := okds_app (d := some (t.length + 1)) (R.take a) (R.drop a)
  rw [List.take_append_drop, hrow] at k1
  have k2 := szs_app (R.take a) (R.drop a)
  rw [List.take_append_drop, hsz] at k2
  have k1 : okds (some (t.length + 1)) (R.take a) = true ∧ okds (some (t.length + 1)) (R.drop a) = true := by simpa using k1.symm
  obtain ⟨k3, k4⟩ := k1
  have l1 : (R.take a).length ≤ 4 := by simp; omega
  have l2 : (R.drop a).length ≤ 4 := by simp; omega
  have c1' : cut R none (some (a : Int)) = R.take a := by rw [cut_to (by omega)]; rfl
  have c2' : cut R (some (a : Int)) none = R.drop a := by rw [cut_from (by omega)]; rfl
  generalize R.take a = A at *
  generalize R.drop a = D at *
  have psb : pls [b] = false := by simp [pls, b1]
  have okb : okds (some (t.length + 1)) [b] = true := by simp [okds, b2]
  have szb : szs [b] = 1 := by simp [szs, b3]
  obtain ⟨w, c3, hw, hd3, e3⟩ := pick_ok (t := t ++ [.dic false []]) (v := .lst [b, .tup (A ++ [b] ++ D), .tup [.tup [], .tup [.tup [v, .tup [b]]]], .tup [.tup R, .tup A, b]]) hd2 (fun _ => rfl) (by simp) (by simp) (by simp)
  refine ⟨w, c3, ?_, hd3, ?_⟩
  · refine def_rt rfl ?_
    show sSeq _ _ [some (.cel 0), some v, none, none, none] _ = _
    rw [seq_nx (σ1 := [some (.cel 0), some v, some b, none, none]) (h1 := c1 :: (t ++ [.dic false []])) (by simp [e1])]
    rw [seq_nx (σ1 := [some (.cel 0), some v, some b, some (.tup R), none]) (h1 := c1 :: (t ++ [.dic false []])) (by simp [← hR])]
    rw [seq_nx (σ1 := [some (.cel 0), some v, some b, some (.tup R), some (.int (a : Int))]) (h1 := c2 :: (t ++ [.dic false []])) (by simp [e2])]
    refine ret_ok ?_
    have d1 : A.length + [b].length ≤ 16777216 := by simp only [List.length_cons, List.length_nil]; omega
    have d2 : (A ++ [b]).length + D.length ≤ 16777216 := by simp only [List.length_append, List.length_cons, List.length_nil]; omega
    simp only [z_eCall, z_aCons, z_aNil, z_eVar, z_eLst, z_eOp2, z_eTup, z_eSl, z_oNo, z_oAt, List.getElem?_cons_zero, List.getElem?_cons_succ, Res.bind_ok, z_slT, c1', c2', addT_ok d1, addT_ok d2, line_is, List.length_cons, List.length_nil, Nat.reduceAdd, Nat.reduceLeDiff, Nat.zero_add, if_true, Nat.zero_le, e3]
  · simp only [List.mem_cons, List.mem_nil_iff, or_false] at hw
    rcases hw with rfl | rfl | rfl | rfl
    · exact ⟨b1, b2, by omega⟩
    · refine ⟨?_, ?_, ?_⟩
      · simp only [pl]
        rw [pls_app, pls_app, psb]
        simp
      · simp only [okd]
        rw [okds_app, okds_app, okb, k3, k4]
        rfl
      · simp only [sz]
        rw [szs_app, szs_app, szb]
        omega
    · refine ⟨by simp [pl, pls, b1], by simp [okd, okds, b2, hgo], by simp only [sz, szs]; omega⟩
    · refine ⟨by simp [pl, pls, b1], by simp [okd, okds, b2, hrow, k3], by simp only [sz, szs]; omega⟩
/-! ### the law's turns -/
def L0 (sc p vl tx ag : AV) (o6 o11 : Option AV) : AS := [some sc, some (.cel 0), some p, some vl, some tx, some ag, o6, none, none, none, none, o11, none, none]
theorem row_ok {sc p vl tx ag : AV} {c : HC} {t : AH} {v : AV} {o11 : Option AV} (hd : Dr c) (m : Made v 2800 101) :
    ∃ c' t' o11', s_law_0 (L0 sc p vl tx ag (some (.tup [v, .str (W v)])) o11) (c :: t) = .nx (L0 sc p vl tx ag (some (.tup [v, .str (W v)])) o11') (c' :: t') ∧ Dr c' := by
  have hg := m.good
  have hl := m.len
  have htn := m.tn
  have ht := good_tree v hg (by omega)
  have hsz := good_sz hg (by omega)
  obtain ⟨u1, e1⟩ := write_good ht (by omega) hg (c :: t)
  obtain ⟨u2, e2⟩ := read_ok (s := W v) (by omega) (P_W hg) (c :: t ++ u1)
  have e3 : m__law_same 200 [v, v] (c :: t ++ u1 ++ u2) = .ok (.bl true) (c :: t ++ u1 ++ u2) := same_deep 199 v _ hg (by omega) (by omega)
  obtain ⟨u4, e4⟩ := isplain_ok (h := c :: t ++ u1 ++ u2) (d := none) (fun n z => nomatch z) (v := v) (by omega) (good_pl none v hg).2
  rw [(good_pl none v hg).1] at e4
  obtain ⟨w, c5, e5, hd5, w1, w2, w3⟩ := odd_ok (t := t ++ u1 ++ u2 ++ u4) hd hg
  obtain ⟨u6, e6⟩ := isplain_ok (h := c5 :: (t ++ u1 ++ u2 ++ u4 ++ [.dic false []])) (d := some ((t ++ u1 ++ u2 ++ u4).length + 1)) (fun n z => by
    cases z
    exact ⟨false, [], by simp⟩) (v := w) (by omega) w2
  rw [w1] at e6
  have e5 : m__law_odd [.cel 0, v] (c :: t ++ u1 ++ u2 ++ u4) = .ok w (c5 :: (t ++ u1 ++ u2 ++ u4 ++ [.dic false []])) := e5
  refine ⟨c5, t ++ u1 ++ u2 ++ u4 ++ [.dic false []] ++ u6, some (.str (W v)), ?_, hd5⟩
  show sSeq _ _ _ _ = _
  have g6 : ∀ o11, (L0 sc p vl tx ag (some (.tup [v, .str (W v)])) o11)[6]? = some (some (.tup [v, .str (W v)])) := fun _ => rfl
  have g1 : ∀ o11, (L0 sc p vl tx ag (some (.tup [v, .str (W v)])) o11)[1]? = some (some (.cel 0)) := fun _ => rfl
  have g11 : ∀ x, (L0 sc p vl tx ag (some (.tup [v, .str (W v)])) (some x))[11]? = some (some x) := fun _ => rfl
  rw [seq_nx (σ1 := L0 sc p vl tx ag (some (.tup [v, .str (W v)])) (some (.str (W v)))) (h1 := c :: t ++ u1) (by
    simp only [z_sAsg, z_eCall, z_aCons, z_aNil, z_eVar, z_eOp2, z_eC, g6, Res.bind_ok, ix0, e1]
    rfl)]
  rw [seq_nx (if_no (h1 := c :: t ++ u1 ++ u2) (by
    have hs : ∀ h, isTy "str" (.str (W v)) h = some true := fun _ => rfl
    simp only [z_tOr, z_tNot, z_tB, z_eCall, z_aCons, z_aNil, z_eVar, z_eOp1, z_eOp2, z_eC, g6, g11, Res.bind_ok, z_isTy, hs, ix0, ix1, z_neS, e2, e3]
    simp))]
  refine if_no ?_
  have gap : c :: t ++ u1 ++ u2 ++ u4 = c :: t ++ u1 ++ u2 ++ u4 := rfl
  simp only [z_tOr, z_tNot, z_tB, z_eCall, z_aCons, z_aNil, z_eVar, z_eOp1, z_eOp2, z_eC, g1, g6, g11, Res.bind_ok, ix0, ix1, e4, e5, z_notB]
  simp only [beq_self_eq_true, Bool.not_true, Bool.false_eq_true, if_false, e6, Res.bind_ok, z_notB]
  simp
theorem refuse_turn {σ : AS} {v : AV} {h : AH} (ht : tree v = true) (hg : good v = false) (hl : (W v).length ≤ 900000) (h6 : σ[6]? = some (some v)) : ∃ u, s_law_1 σ h = .nx σ (h ++ u) := by
  obtain ⟨u, e⟩ := refuses_ok ht hl hg h
  refine ⟨u, if_no ?_⟩
  simp only [z_tNot, z_tB, z_eCall, z_aCons, z_aNil, z_eVar, h6, Res.bind_ok, e]
  rfl
/-- texts in a cell -/
theorem at_t {c : HC} {t : AH} {x : HC} : (c :: (t ++ [x]))[t.length + 1]? = some x := by simp
theorem set_t {c : HC} {t : AH} {x y : HC} : (c :: (t ++ [x])).set (t.length + 1) y = c :: (t ++ [y]) := by simp
theorem app_t {σ : AS} {e : E} {c c' : HC} {t : AH} {xs : List AV} {y : AV} (h9 : σ[9]? = some (some (.cel (t.length + 1)))) (he : e σ (c :: (t ++ [.lst xs])) = .ok y (c' :: (t ++ [.lst xs]))) (hl : xs.length < 16777216) : sDrop (eM1 "list" mAppend (eVar 9) e) σ (c :: (t ++ [.lst xs])) = .nx σ (c' :: (t ++ [.lst (xs ++ [y])])) := by
  have ty : tyA "list" (c :: (t ++ [HC.lst xs])) (.cel (t.length + 1)) = true := by
    unfold tyA
    simp only [at_t]
    rfl
  simp only [z_sDrop, z_eM1, z_eVar, h9, Res.bind_ok, ty, if_true, he, z_app, at_t, line_is, if_pos hl, set_t, Res.st_ok]
/-- what may be turned -/
def LastOK (s : List Nat) : Prop := s.length ≤ 5000 ∧ ∀ s', Turn s s' → Shal s'
theorem short_last {s : List Nat} (h : s.length ≤ 100) : LastOK s := ⟨by omega, fun s' t => short_shal (by have := t.len; omega)⟩
theorem Made.last {v : AV} {B N : Nat} (m : Made v B N) (hB : B ≤ 5000) (hN : N ≤ 198) : LastOK (W v) := ⟨by have := m.len; omega, fun _ t => bal_turn m.bal hN t⟩
def Asks (s : List Nat) : Prop := s.length ≤ 5001 ∧ Shal s
def LF (sc p vl gd bd : AV) (tx : List Nat) (ag : AV) (o6 : Option AV) (n : Nat) (o10 o11 o12 o13 : Option AV) : AS := [some sc, some (.cel 0), some p, some vl, some (.str tx), some ag, o6, some gd, some bd, some (.cel n), o10, o11, o12, o13]
theorem some_ints {b : Nat} {l : List Int} {x : AV} (h : x ∈ l.map AV.int) (hl : ∀ i ∈ l, 0 ≤ i ∧ i ≤ b) : ∃ m : Nat, x = .int (m : Int) ∧ m ≤ b := by
  obtain ⟨i, hi, rfl⟩ := List.mem_map.mp h
  have := hl i hi
  exact ⟨i.toNat, by congr 1; omega, by omega⟩
theorem some_strs {b : Nat} {l : List (List Nat)} {x : AV} (h : x ∈ l.map AV.str) (hl : ∀ s ∈ l, s.length ≤ b) : ∃ s : List Nat, x = .str s ∧ s.length ≤ b := by
  obtain ⟨s, hs, rfl⟩ := List.mem_map.mp h
  exact ⟨s, rfl, hl s hs⟩
theorem texts_turn {sc p vl gd bd ag0 : AV} {tx : List Nat} {va : List Nat} {o6 o10 o11 o12 o13 : Option AV} {c : HC} {t : AH} {xs : List (List Nat)} {l : List Nat} (hd : Dr c) (htx : LastOK tx) (hva : LastOK va) (hlast : LastOK l) (hx : ∀ s ∈ xs ++ [l], Asks s) (hxl : xs.length ≤ 1000) :
    ∃ c' xs' l' q12 q13, s_law_2 (LF sc p vl gd bd tx (.tup [ag0, .str va]) o6 (t.length + 1) o10 o11 o12 o13) (c :: (t ++ [.lst ((xs ++ [l]).map .str)])) = .nx (LF sc p vl gd bd tx (.tup [ag0, .str va]) o6 (t.length + 1) o10 o11 q12 q13) (c' :: (t ++ [.lst ((xs' ++ [l']).map .str)])) ∧ Dr c' ∧ LastOK l' ∧ (∀ s ∈ xs' ++ [l'], Asks s) ∧ xs'.length = xs.length + 3 := by
  -- a text turned
  obtain ⟨x, c1, hx1, hd1, e1⟩ := pick_ok (t := t ++ [.lst ((xs ++ [l]).map .str)]) (v := .lst ([tx, va, l].map .str)) hd (fun _ => rfl) (by simp) (by simp) (by simp)
  obtain ⟨b, hb, rfl⟩ := List.mem_map.mp hx1
  have hbl : LastOK b := by
    simp only [List.mem_cons, List.mem_nil_iff, or_false] at hb
    rcases hb with rfl | rfl | rfl
    · exact htx
    · exact hva
    · exact hlast
  obtain ⟨s1, c2, e2, hd2, tn1⟩ := turned_ok (t := t ++ [.lst ((xs ++ [l]).map .str)]) hd1 (show b.length ≤ 100000 by have := hbl.1; omega)
  have as1 : Asks s1 := ⟨by have := tn1.len; have := hbl.1; omega, hbl.2 s1 tn1⟩
  -- a number
  obtain ⟨r, c3, r0, r1, hd3, e3⟩ := draw_ok (t := t ++ [.lst (((xs ++ [l]).map .str) ++ [.str s1])]) (many := 5) hd2 (by omega) (by omega)
  obtain ⟨r, rfl⟩ := Int.eq_ofNat_of_zero_le r0
  obtain ⟨w, c4, hw, hd4, e4⟩ := number_ok (t := t ++ [.lst (((xs ++ [l]).map .str) ++ [.str s1])]) (many := 28 + r) hd3 (by omega) (by omega)
  have hwl := hw.len
  have e4 : m__law_number [.cel 0, .int (28 + (r : Int))] (c3 :: (t ++ [.lst (((xs ++ [l]).map .str) ++ [.str s1])])) = .ok (.str w) (c4 :: (t ++ [.lst (((xs ++ [l]).map .str) ++ [.str s1])])) := e4
  obtain ⟨x, c5, hx5, hd5, e5⟩ := pick_ok (t := t ++ [.lst (((xs ++ [l]).map .str) ++ [.str s1])]) (v := .lst ([[], [40], [40, 45, 32], [40, 39, 39, 32, 48]].map .str)) hd4 (fun _ => rfl) (by simp) (by simp) (by simp)
  obtain ⟨s5, rfl, h5⟩ := some_strs (b := 5) hx5 (by simp)
  obtain ⟨x, c6, hx6, hd6, e6⟩ := pick_ok (t := t ++ [.lst (((xs ++ [l]).map .str) ++ [.str s1])]) (v := .lst ([[], [41], [32, 49, 41], [48, 41], [32]].map .str)) hd5 (fun _ => rfl) (by simp) (by simp) (by simp)
  obtain ⟨s6, rfl, h6⟩ := some_strs (b := 5) hx6 (by simp)
  have as2 : Asks (s5 ++ w ++ s6) := by
    have : (s5 ++ w ++ s6).length ≤ 50 := by simp only [List.length_append]; omega
    exact ⟨by omega, short_shal (by omega)⟩
  -- signs
  obtain ⟨m, c7, m0, m1, hd7, e7⟩ := draw_ok (t := t ++ [.lst (((xs ++ [l]).map .str) ++ [.str s1] ++ [.str (s5 ++ w ++ s6)])]) (many := 12) hd6 (by omega) (by omega)
  obtain ⟨m, rfl⟩ := Int.eq_ofNat_of_zero_le m0
  obtain ⟨ys, c8, e8, hd8, l8, p8⟩ := lcL_dr0 (g := gNm 13) (t := tYes) (e := e_law_0) (σ := LF sc p vl gd bd tx (.tup [ag0, .str va]) o6 (t.length + 1) o10 o11 (some (.str w)) none) (fun y => ∃ d, y = sg d ∧ True) (t ++ [.lst (((xs ++ [l]).map .str) ++ [.str s1] ++ [.str (s5 ++ w ++ s6)])]) (rng 0 m) c7 hd7 (by simp; omega) (fun x hx c hd => by
    obtain ⟨d, c', hx, hd', e⟩ := pick_str (t := t ++ [.lst (((xs ++ [l]).map .str) ++ [.str s1] ++ [.str (s5 ++ w ++ s6)])]) (s := [40, 40, 40, 41, 41, 41, 39, 39, 32, 45, 48, 49, 50, 51, 59, 97]) hd (by simp) (by simp)
    refine ⟨_, sg d, c', rfl, rfl, ?_, hd', d, rfl, trivial⟩
    simp only [e_law_0, z_eCall, z_aCons, z_aNil, z_eVar, z_eC, LF, z_gNm, List.set_cons_succ, List.set_cons_zero, List.getElem?_cons_zero, List.getElem?_cons_succ, Res.bind_ok, e]
    rfl)
  obtain ⟨ds, rfl, _⟩ := signs_of p8
  rw [rng_len, List.length_map] at l8
  have hB : inBig (m : Int) = true := inBig_of (by omega) (by omega)
  have hds : ds.length ≤ 12 := by omega
  refine ⟨c8, xs ++ [l] ++ [s1] ++ [s5 ++ w ++ s6], ds, some (.str w), o13, ?_, hd8, short_last (by omega), fun s hs => ?_, by simp⟩
  · have hA : (xs ++ [l]).length ≤ 1001 := by simp; omega
    have hAt : atI ((xs ++ [l]).map AV.str) (-1) = some (.str l) := by
      rw [atI_neg1 (by simp)]
      simp
    have hfin : (xs ++ [l] ++ [s1] ++ [s5 ++ w ++ s6] ++ [ds]).map AV.str = (xs ++ [l]).map AV.str ++ [.str s1] ++ [.str (s5 ++ w ++ s6)] ++ [.str ds] := by simp
    rw [hfin]
    have hAl : ((xs ++ [l]).map AV.str).length ≤ 1001 := by simpa using hA
    generalize (xs ++ [l]).map AV.str = A at *
    show sSeq _ _ _ _ = _
    rw [seq_nx (app_t (c' := c2) (y := .str s1) rfl (by
      have z1 : eOp2 oIx (eVar 9) (eOp1 oNeg (eC (.int 1))) (LF sc p vl gd bd tx (.tup [ag0, .str va]) o6 (t.length + 1) o10 o11 o12 o13) (c :: (t ++ [.lst A])) = .ok (.str l) (c :: (t ++ [.lst A])) := by
        have q9 : eVar 9 (LF sc p vl gd bd tx (.tup [ag0, .str va]) o6 (t.length + 1) o10 o11 o12 o13) (c :: (t ++ [.lst A])) = .ok (.cel (t.length + 1)) (c :: (t ++ [.lst A])) := rfl
        have qn : eOp1 oNeg (eC (.int 1)) (LF sc p vl gd bd tx (.tup [ag0, .str va]) o6 (t.length + 1) o10 o11 o12 o13) (c :: (t ++ [.lst A])) = .ok (.int (-1)) (c :: (t ++ [.lst A])) := rfl
        rw [z_eOp2, q9, Res.bind_ok, qn, Res.bind_ok, z_ixC, at_t]
        dsimp only
        rw [hAt]
      have e1 : m__law_pick [.cel 0, .lst [.str tx, .str va, .str l]] (c :: (t ++ [.lst A])) = .ok (.str b) (c1 :: (t ++ [.lst A])) := e1
      have z2 : eLst (aCons (eVar 4) (aCons (eOp2 oIx (eVar 5) (eC (.int 1))) (aCons (eOp2 oIx (eVar 9) (eOp1 oNeg (eC (.int 1)))) (aNil)))) (LF sc p vl gd bd tx (.tup [ag0, .str va]) o6 (t.length + 1) o10 o11 o12 o13) (c :: (t ++ [.lst A])) = .ok (.lst [.str tx, .str va, .str l]) (c :: (t ++ [.lst A])) := by
        have q4 : eVar 4 (LF sc p vl gd bd tx (.tup [ag0, .str va]) o6 (t.length + 1) o10 o11 o12 o13) (c :: (t ++ [.lst A])) = .ok (.str tx) (c :: (t ++ [.lst A])) := rfl
        have q5 : eOp2 oIx (eVar 5) (eC (.int 1)) (LF sc p vl gd bd tx (.tup [ag0, .str va]) o6 (t.length + 1) o10 o11 o12 o13) (c :: (t ++ [.lst A])) = .ok (.str va) (c :: (t ++ [.lst A])) := by
          show oIx (.tup [ag0, .str va]) (.int 1) _ = _
          exact ix1
        rw [z_eLst, z_aCons, q4, Res.bind_ok, z_aCons, q5, Res.bind_ok, z_aCons, z1]
        simp only [Res.bind_ok, z_aNil, List.length_cons, List.length_nil, line_is]
        simp
      have q1 : ∀ H, eVar 1 (LF sc p vl gd bd tx (.tup [ag0, .str va]) o6 (t.length + 1) o10 o11 o12 o13) H = .ok (.cel 0) H := fun _ => rfl
      rw [z_eCall, z_aCons, q1, Res.bind_ok, z_aCons, z_eCall, z_aCons, q1, Res.bind_ok, z_aCons, z2]
      simp only [Res.bind_ok, z_aNil, e1, e2]) (by omega))]
    rw [seq_nx (σ1 := LF sc p vl gd bd tx (.tup [ag0, .str va]) o6 (t.length + 1) o10 o11 (some (.str w)) o13) (h1 := c4 :: (t ++ [.lst (A ++ [.str s1])])) (by
      simp only [z_sAsg, z_eCall, z_aCons, z_aNil, z_eVar, z_eOp2, z_eC, LF, List.getElem?_cons_zero, List.getElem?_cons_succ, Res.bind_ok, e3, z_addI, e4]
      rfl)]
    have d1 : s5.length + w.length ≤ 16777216 := by omega
    have d2 : (s5 ++ w).length + s6.length ≤ 16777216 := by simp only [List.length_append]; omega
    rw [seq_nx (app_t (c' := c6) (y := .str (s5 ++ w ++ s6)) rfl (by
      have e5 : m__law_pick [.cel 0, .lst [.str [], .str [40], .str [40, 45, 32], .str [40, 39, 39, 32, 48]]] (c4 :: (t ++ [.lst (A ++ [.str s1])])) = .ok (.str s5) (c5 :: (t ++ [.lst (A ++ [.str s1])])) := e5
      have e6 : m__law_pick [.cel 0, .lst [.str [], .str [41], .str [32, 49, 41], .str [48, 41], .str [32]]] (c5 :: (t ++ [.lst (A ++ [.str s1])])) = .ok (.str s6) (c6 :: (t ++ [.lst (A ++ [.str s1])])) := e6
      simp only [z_eCall, z_aCons, z_aNil, z_eVar, z_eOp2, z_eC, z_eLst, LF, List.getElem?_cons_zero, List.getElem?_cons_succ, Res.bind_ok, List.length_cons, List.length_nil, line_is]
      simp only [Nat.reduceAdd, Nat.reduceLeDiff, if_true, Res.bind_ok, e5, e6, addS_ok d1, addS_ok d2]) (by simp only [List.length_append, List.length_cons, List.length_nil]; omega))]
    refine app_t (y := .str ds) rfl ?_ (by simp only [List.length_append, List.length_cons, List.length_nil]; omega)
    have tyS : ∀ H, tyA "str" H (.str []) = true := fun _ => rfl
    have ew : wipe (LF sc p vl gd bd tx (.tup [ag0, .str va]) o6 (t.length + 1) o10 o11 (some (.str w)) o13) [13] = LF sc p vl gd bd tx (.tup [ag0, .str va]) o6 (t.length + 1) o10 o11 (some (.str w)) none := rfl
    have q1 : ∀ H, eVar 1 (LF sc p vl gd bd tx (.tup [ag0, .str va]) o6 (t.length + 1) o10 o11 (some (.str w)) o13) H = .ok (.cel 0) H := fun _ => rfl
    have er : iRng1 (eCall m__law_draw (aCons (eVar 1) (aCons (eC (.int 12)) (aNil)))) (LF sc p vl gd bd tx (.tup [ag0, .str va]) o6 (t.length + 1) o10 o11 (some (.str w)) o13) (c6 :: (t ++ [.lst (A ++ [.str s1] ++ [.str (s5 ++ w ++ s6)])])) = .ok (.seq (rng 0 m)) (c7 :: (t ++ [.lst (A ++ [.str s1] ++ [.str (s5 ++ w ++ s6)])])) := by
      rw [z_iRng1, z_eCall, z_aCons, q1]
      simp only [Res.bind_ok, z_aCons, z_eC, z_aNil, e7, hB, if_true]
      rfl
    rw [z_eM1, z_eC, Res.bind_ok, if_pos (tyS _), z_eLc, z_lcOf, er]
    simp only [Res.bind_ok, ew, e8, z_noEx]
    exact join_sg (by omega)
  · simp only [List.mem_append, List.mem_cons, List.mem_nil_iff, or_false] at hs
    rcases hs with ((hs | rfl) | rfl) | rfl
    · exact hx s (by simpa using hs)
    · exact as1
    · exact as2
    · exact ⟨by omega, short_shal (by omega)⟩
end Lk94

end

section
set_option maxHeartbeats 4000000
namespace Lk94
open Mi MiL Cd
/-- none of a changing list's items is taken -/
theorem lcC_none {n : Nat} {g : G} {t : T} {e : E} {σ : AS} {xs : List AV} {h0 : AH} (hn : h0[n]? = some (.lst xs)) (st : ∀ x ∈ xs, ∀ u : AH, ∃ σ1 u', g x σ (h0 ++ u) = some (σ1, h0 ++ u) ∧ t σ1 (h0 ++ u) = .ok false (h0 ++ u')) : ∀ (f i : Nat) (u : AH), i + f = xs.length → ∃ u', lcC n g t e σ f i [] (h0 ++ u) = .ok [] (h0 ++ u')
  | 0, i, u, hi => by
    have hg : (h0 ++ u)[n]? = some (.lst xs) := by rw [List.getElem?_append_left (List.getElem?_eq_some_iff.mp hn).1]; exact hn
    refine ⟨u, ?_⟩
    rw [lcC, hg]
    dsimp only
    rw [if_pos (by omega)]
  | f + 1, i, u, hi => by
    have hg : (h0 ++ u)[n]? = some (.lst xs) := by rw [List.getElem?_append_left (List.getElem?_eq_some_iff.mp hn).1]; exact hn
    obtain ⟨x, hx⟩ : ∃ x, xs[i]? = some x := ⟨_, List.getElem?_eq_getElem (by omega)⟩
    obtain ⟨σ1, u1, e1, e2⟩ := st x (List.mem_of_getElem? hx) u
    obtain ⟨u2, e3⟩ := lcC_none hn st f (i + 1) u1 (by omega)
    refine ⟨u2, ?_⟩
    rw [lcC, hg]
    dsimp only
    rw [hx]
    dsimp only
    rw [e1]
    dsimp only
    rw [e2]
    simp only [Res.bind_ok, Bool.false_eq_true, if_false]
    exact e3
theorem law_pair {σ : AS} {c : HC} {t : AH} {v : AV} (hd : Dr c) (hv : Made v 2570 61) (h1 : σ[1]? = some (some (.cel 0))) (h2 : σ[2]? = some (some (.tup [v, .str (W v)]))) :
    ∃ v' c' t', sIf (tB (eOp2 oGt (eCall m__law_draw (aCons (eVar 1) (aCons (eC (.int 6)) (aNil)))) (eC (.int 0)))) (sAsg (eCall m__law_made (aCons (eVar 1) (aCons (eCall m__law_pick (aCons (eVar 1) (aCons (eLst (aCons (eC (.int 0)) (aCons (eC (.int 1)) (aCons (eC (.int 3)) (aCons (eC (.int 6)) (aCons (eC (.int 12)) (aCons (eC (.int 30)) (aCons (eC (.int 60)) (aNil))))))))) (aNil)))) (aNil)))) (gNm 2)) (sNx) σ (c :: t) = .nx (σ.set 2 (some (.tup [v', .str (W v')]))) (c' :: t') ∧ Dr c' ∧ Made v' 2570 61 := by
  obtain ⟨k, c1, k0, k1, hd1, e1⟩ := draw_ok (t := t) (many := 6) hd (by omega) (by omega)
  by_cases hk : 0 < k
  · obtain ⟨x, c2, hx, hd2, e2⟩ := pick_ok (t := t) (v := .lst ([0, 1, 3, 6, 12, 30, 60].map .int)) hd1 (fun _ => rfl) (by simp) (by simp) (by simp)
    obtain ⟨m, rfl, hm⟩ := some_ints (b := 60) hx (by simp)
    obtain ⟨v', c3, u3, e3, hd3, mv⟩ := made_ok (t := t) (many := m) (by omega) hd2
    refine ⟨v', c3, t ++ u3, ?_, hd3, mv.mono (by omega) (by omega)⟩
    rw [if_t (h1 := c1 :: t) (by
      simp only [z_tB, z_eOp2, z_eCall, z_aCons, z_aNil, z_eVar, z_eC, h1, Res.bind_ok, e1, z_gtI, decide_eq_true hk])]
    have e2 : m__law_pick [.cel 0, .lst [.int 0, .int 1, .int 3, .int 6, .int 12, .int 30, .int 60]] (c1 :: t) = .ok (.int (m : Int)) (c2 :: t) := e2
    simp only [z_sAsg, z_eCall, z_aCons, z_aNil, z_eVar, z_eC, z_eLst, h1, Res.bind_ok, line_is, List.length_cons, List.length_nil, Nat.reduceAdd, Nat.reduceLeDiff, Nat.zero_add, if_true, e2, e3]
    rfl
  · refine ⟨v, c1, t, ?_, hd1, hv⟩
    rw [if_no (h1 := c1 :: t) (by
      simp only [z_tB, z_eOp2, z_eCall, z_aCons, z_aNil, z_eVar, z_eC, h1, Res.bind_ok, e1, z_gtI, decide_eq_false hk])]
    congr 1
    apply List.ext_getElem?
    intro i
    by_cases hi : i = 2
    · subst hi
      have : 2 < σ.length := (List.getElem?_eq_some_iff.mp h2).1
      rw [List.getElem?_set_self this, h2]
    · rw [List.getElem?_set_ne (fun z => hi z.symm)]
theorem W_three {v : AV} : W (.tup [.int (10 ^ 30 - 1), .int (1 - 10 ^ 30), v]) = [40] ++ List.replicate 30 57 ++ [32, 45] ++ List.replicate 30 57 ++ [32] ++ W v ++ [41] := by
  have h1 : intL (10 ^ 30 - 1) = List.replicate 30 57 := by decide +kernel
  have h2 : intL (1 - 10 ^ 30) = 45 :: List.replicate 30 57 := by decide +kernel
  rw [W_tup]
  simp only [Ws, W_int, h1, h2]
  generalize List.replicate 30 57 = R
  simp
/-- the rows that are refused -/
theorem bads {v b : AV} (m : Made v 2800 101) (hb : BadL b) : ∀ x ∈ [b, .tup [v, b], .tup [b, .int (10 ^ 30 - 1), .int (1 - 10 ^ 30), v], .tup [.tup [], .tup [.tup [v, .tup [b, .int 0]]]], .int (10 ^ 30), .tup [v, .int (-10 ^ 30)]], tree x = true ∧ good x = false ∧ (W x).length ≤ 900000 := by
  have hg := m.good
  have hl := m.len
  have ht := good_tree v hg (by omega)
  have bt := hb.tree
  have bg := hb.bad
  have bl := hb.len
  have h1 : (intL (10 ^ 30 - 1)).length ≤ 40 := by decide +kernel
  have h2 : (intL (1 - 10 ^ 30)).length ≤ 40 := by decide +kernel
  have h3 : (intL (10 ^ 30)).length ≤ 40 := by decide +kernel
  have h4 : (intL (-10 ^ 30)).length ≤ 40 := by decide +kernel
  have h5 : (intL 0).length ≤ 40 := by decide +kernel
  have g3 : good (.int (10 ^ 30)) = false := by rw [good_int]; decide +kernel
  have g4 : good (.int (-10 ^ 30)) = false := by rw [good_int]; decide +kernel
  intro x hx
  simp only [List.mem_cons, List.mem_nil_iff, or_false] at hx
  rcases hx with rfl | rfl | rfl | rfl | rfl | rfl
  · exact ⟨bt, bg, by omega⟩
  · refine ⟨by simp [tree, trees, ht, bt], by rw [good_tup]; simp [goods, bg], ?_⟩
    rw [W_tup]
    simp only [Ws, List.length_cons, List.length_append, List.length_nil]
    omega
  · refine ⟨by simp [tree, trees, ht, bt], by rw [good_tup]; simp [goods, bg], ?_⟩
    rw [W_tup]
    simp only [Ws, W_int, List.length_cons, List.length_append, List.length_nil]
    omega
  · refine ⟨by simp [tree, trees, ht, bt], by rw [good_tup]; simp [goods, good_tup, bg], ?_⟩
    rw [W_tup]
    simp only [Ws, W_int, W_tup, List.length_cons, List.length_append, List.length_nil]
    omega
  · exact ⟨rfl, g3, by rw [W_int]; omega⟩
  · refine ⟨by simp [tree, trees, ht], by rw [good_tup]; simp only [goods, g4, Bool.false_and, Bool.and_false], ?_⟩
    rw [W_tup]
    simp only [Ws, W_int, List.length_cons, List.length_append, List.length_nil]
    omega
end Lk94

end

section
set_option maxHeartbeats 4000000
namespace Lk94
open Mi MiL Cd
theorem good_three {v : AV} (hg : good v = true) : good (.tup [.int (10 ^ 30 - 1), .int (1 - 10 ^ 30), v]) = true := by
  have h1 : good (.int (10 ^ 30 - 1)) = true := by rw [good_int]; decide +kernel
  have h2 : good (.int (1 - 10 ^ 30)) = true := by rw [good_int]; decide +kernel
  rw [good_tup]
  simp only [goods, h1, h2, hg, Bool.and_self]
theorem nines_ok {σ : AS} {h : AH} {tx : List Nat} (h4 : σ[4]? = some (some (.str tx))) (hl : tx.length ≤ 100000) : eOp2 oAdd (eOp2 oAdd (eOp2 oAdd (eOp2 oAdd (eOp2 oAdd (eOp2 oAdd (eC (.str [40])) (eOp2 oMul (eC (.str [57])) (eC (.int 30)))) (eC (.str [32, 45]))) (eOp2 oMul (eC (.str [57])) (eC (.int 30)))) (eC (.str [32]))) (eVar 4)) (eC (.str [41])) σ h = .ok (.str ([40] ++ List.replicate 30 57 ++ [32, 45] ++ List.replicate 30 57 ++ [32] ++ tx ++ [41])) h := by
  have hm : oMul (.str [57]) (.int 30) h = .ok (.str (List.replicate 30 57)) h := rfl
  have hR : (List.replicate 30 57).length = 30 := rfl
  generalize List.replicate 30 57 = R at *
  have a1 : [40].length + R.length ≤ 16777216 := by simp only [List.length_cons, List.length_nil]; omega
  have a2 : ([40] ++ R).length + [32, 45].length ≤ 16777216 := by simp only [List.length_append, List.length_cons, List.length_nil]; omega
  have a3 : ([40] ++ R ++ [32, 45]).length + R.length ≤ 16777216 := by simp only [List.length_append, List.length_cons, List.length_nil]; omega
  have a4 : ([40] ++ R ++ [32, 45] ++ R).length + [32].length ≤ 16777216 := by simp only [List.length_append, List.length_cons, List.length_nil]; omega
  have a5 : ([40] ++ R ++ [32, 45] ++ R ++ [32]).length + tx.length ≤ 16777216 := by simp only [List.length_append, List.length_cons, List.length_nil]; omega
  have a6 : ([40] ++ R ++ [32, 45] ++ R ++ [32] ++ tx).length + [41].length ≤ 16777216 := by simp only [List.length_append, List.length_cons, List.length_nil]; omega
  simp only [z_eOp2, z_eC, z_eVar, h4, Res.bind_ok, hm, addS_ok a1, addS_ok a2, addS_ok a3, addS_ok a4, addS_ok a5, addS_ok a6]
def tailS : S := sRet (eOp2 oEq (eCall cLen (aCons (eLc (iSeq (eVar 9)) (gNm 6) (t_law_0) (e_law_1) [6]) (aNil))) (eC (.int 0)))
/-- from the texts on -/
theorem tail_ok {σ : AS} {c : HC} {t : AH} {xs : List (List Nat)} (h9 : σ[9]? = some (some (.cel (t.length + 1)))) (h6 : 6 < σ.length) (hx : ∀ s ∈ xs, Asks s) : ∃ h', tailS σ (c :: (t ++ [.lst (xs.map .str)])) = .rt (.bl true) h' := by
  obtain ⟨u', e⟩ := lcC_none (n := t.length + 1) (g := gNm 6) (t := t_law_0) (e := e_law_1) (σ := wipe σ [6]) (xs := xs.map .str) (h0 := c :: (t ++ [.lst (xs.map .str)])) at_t (fun x hx2 u => by
    obtain ⟨s, hs, rfl⟩ := List.mem_map.mp hx2
    obtain ⟨h1, h2⟩ := hx s hs
    obtain ⟨u2, e⟩ := asked_ok (s := s) (by omega) h2 (c :: (t ++ [.lst (xs.map .str)]) ++ u)
    refine ⟨_, u ++ u2, rfl, ?_⟩
    have g6 : ((wipe σ [6]).set 6 (some (.str s)))[6]? = some (some (.str s)) := List.getElem?_set_self (by simpa [wipe] using h6)
    show tNot _ _ _ = _
    simp only [z_tNot, z_tB, z_eCall, z_aCons, z_aNil, z_eVar, g6, Res.bind_ok, e]
    simp) (xs.map AV.str).length 0 [] (by simp)
  rw [List.append_nil] at e
  refine ⟨_, ret_ok (v := .bl true) (h1 := c :: (t ++ [.lst (xs.map .str)]) ++ u') ?_⟩
  have ei : iSeq (eVar 9) σ (c :: (t ++ [.lst (xs.map .str)])) = .ok (.live (t.length + 1)) (c :: (t ++ [.lst (xs.map .str)])) := by
    rw [z_iSeq, z_eVar, h9]
    simp only [Res.bind_ok, at_t]
  rw [z_eOp2, z_eCall, z_aCons, z_eLc, z_lcOf, ei]
  simp only [Res.bind_ok]
  rw [at_t]
  dsimp only
  rw [e]
  rfl
theorem law_ok : ∀ ns : List Int, ns.length ≤ 63 → ∃ h', m_law [.scr false (ns.map .int)] [] = .ok (.bl true) h' := by
  intro ns hns
  obtain ⟨c0, hd0, e0⟩ := begin_ok ns hns
  obtain ⟨lv, c1, hlv, hd1, e1⟩ := leafmade_ok (t := []) hd0
  generalize hsc : AV.scr false (ns.map .int) = sc at e0
  obtain ⟨v2, c2, t2, e2, hd2, m2⟩ := law_pair (σ := [some sc, some (.cel 0), some (.tup [lv, .str (W lv)]), none, none, none, none, none, none, none, none, none, none, none]) (t := []) hd1 (hlv.made.mono (by omega) (by omega)) rfl rfl
  obtain ⟨x3, c3, hx3, hd3, e3⟩ := pick_ok (t := t2) (v := .lst ([0, 0, 0, 2, 40].map .int)) hd2 (fun _ => rfl) (by simp) (by simp) (by simp)
  obtain ⟨k3, rfl, hk3⟩ := some_ints (b := 40) hx3 (by simp)
  obtain ⟨v, c4, e4, hd4, m4⟩ := wrapped_ok (t := t2) (many := k3) hd3 m2 (by omega)
  have m : Made v 2800 101 := m4.mono (by omega) (by omega)
  obtain ⟨v5, c5, u5, e5, hd5, m5⟩ := made_ok (t := t2) (many := 4) (by omega) hd4
  obtain ⟨va, c6, e6, hd6, m6⟩ := wrapped_ok (t := t2 ++ u5) (many := 1) hd5 m5 (by omega)
  have ma : Made va 2800 101 := m6.mono (by omega) (by omega)
  -- the rows
  obtain ⟨σ7, h7, e7, c7, t7, o6, o11, rfl, hd7, rfl⟩ := forL_inv (g := gNm 6) (b := s_law_0) (fun i σ h => ∃ c t o6 o11, h = c :: t ∧ Dr c ∧ σ = L0 sc (.tup [v, .str (W v)]) v (.str (W v)) (.tup [va, .str (W va)]) o6 o11)
    [.tup [v, .str (W v)], .tup [va, .str (W va)], .tup [v, .str (W v)]] 0 (L0 sc (.tup [v, .str (W v)]) v (.str (W v)) (.tup [va, .str (W va)]) none none) (c6 :: (t2 ++ u5)) ⟨_, _, _, _, rfl, hd6, rfl⟩ (fun i x σ h hx hI => by
      obtain ⟨c, t, o6, o11, rfl, hd, rfl⟩ := hI
      have hx := List.mem_of_getElem? hx
      obtain ⟨w, rfl, mw⟩ : ∃ w, x = .tup [w, .str (W w)] ∧ Made w 2800 101 := by
        simp only [List.mem_cons, List.mem_nil_iff, or_false] at hx
        rcases hx with rfl | rfl | rfl
        · exact ⟨v, rfl, m⟩
        · exact ⟨va, rfl, ma⟩
        · exact ⟨v, rfl, m⟩
      obtain ⟨c', t', o11', e, hd'⟩ := row_ok (sc := sc) (p := .tup [v, .str (W v)]) (vl := v) (tx := .str (W v)) (ag := .tup [va, .str (W va)]) (o11 := o11) (t := t) hd mw
      exact ⟨_, _, _, _, rfl, .inl e, c', t', _, _, rfl, hd', rfl⟩)
  -- the greatest numbers
  have hgd := good_three m.good
  have hWl := m.len
  have hgl : (W (.tup [.int (10 ^ 30 - 1), .int (1 - 10 ^ 30), v])).length ≤ 900000 := by
    rw [W_three]
    simp only [List.length_append, List.length_replicate, List.length_cons, List.length_nil]
    omega
  obtain ⟨u8, e8⟩ := write_good (good_tree _ hgd (by omega)) hgl hgd (c7 :: t7)
  -- a bad leaf
  obtain ⟨b, c9, hb, hd9, e9⟩ := bad_leaf_ok (t := t7 ++ u8) hd7
  obtain ⟨σ10, h10, e10, t10, p6, rfl, rfl⟩ := forL_inv (g := gNm 6) (b := s_law_1) (fun i σ h => ∃ t p6, h = c9 :: t ∧ σ = [some sc, some (.cel 0), some (.tup [v, .str (W v)]), some v, some (.str (W v)), some (.tup [va, .str (W va)]), p6, some (.tup [.int (10 ^ 30 - 1), .int (1 - 10 ^ 30), v]), some b, none, none, o11, none, none])
    [b, .tup [v, b], .tup [b, .int (10 ^ 30 - 1), .int (1 - 10 ^ 30), v], .tup [.tup [], .tup [.tup [v, .tup [b, .int 0]]]], .int (10 ^ 30), .tup [v, .int (-10 ^ 30)]] 0 [some sc, some (.cel 0), some (.tup [v, .str (W v)]), some v, some (.str (W v)), some (.tup [va, .str (W va)]), o6, some (.tup [.int (10 ^ 30 - 1), .int (1 - 10 ^ 30), v]), some b, none, none, o11, none, none] (c9 :: (t7 ++ u8)) ⟨_, _, rfl, rfl⟩ (fun i x σ h hx hI => by
      obtain ⟨t, p6, rfl, rfl⟩ := hI
      obtain ⟨q1, q2, q3⟩ := bads m hb x (List.mem_of_getElem? hx)
      obtain ⟨u, e⟩ := refuse_turn (σ := [some sc, some (.cel 0), some (.tup [v, .str (W v)]), some v, some (.str (W v)), some (.tup [va, .str (W va)]), some x, some (.tup [.int (10 ^ 30 - 1), .int (1 - 10 ^ 30), v]), some b, none, none, o11, none, none]) (h := c9 :: t) q1 q2 q3 rfl
      exact ⟨_, _, _, _, rfl, .inl e, t ++ u, some x, rfl, rfl⟩)
  -- the texts
  obtain ⟨g1, c11, hg1, hd11, e11⟩ := pick_str (t := t10) (s := [40, 41, 32, 39, 45, 48, 59]) hd9 (by decide) (by decide)
  obtain ⟨g2, c12, hg2, hd12, e12⟩ := pick_str (t := t10) (s := [32, 40, 48, 45, 39]) hd11 (by decide) (by decide)
  have hbal := m.bal
  have al := ma.last (by omega) (by omega)
  have tl := m.last (by omega) (by omega)
  have last0 : LastOK (g2 :: W v) ∧ Asks (g2 :: W v) := by
    by_cases h39 : g2 = 39
    · subst h39
      exact ⟨⟨by simp only [List.length_cons]; omega, fun _ t => quote_turn hbal (by omega) t⟩, ⟨by simp only [List.length_cons]; omega, shal_quote _⟩⟩
    · have b2 := bal_cons hbal h39
      exact ⟨⟨by simp only [List.length_cons]; omega, fun _ t => bal_turn b2 (by omega) t⟩, ⟨by simp only [List.length_cons]; omega, bal_self b2 (by omega)⟩⟩
  have asks0 : ∀ s ∈ [W v, W v ++ [g1]] ++ [g2 :: W v], Asks s := by
    intro s hs
    simp only [List.mem_append, List.mem_cons, List.mem_nil_iff, or_false] at hs
    rcases hs with (rfl | rfl) | rfl
    · exact ⟨by omega, bal_self hbal (by omega)⟩
    · exact ⟨by simp only [List.length_append, List.length_cons, List.length_nil]; omega, bal_snoc hbal (by omega) g1⟩
    · exact last0.2
  obtain ⟨σ13, h13, e13, c13, xs, l, q10, q12, q13, rfl, hd13, rfl, hl13, ha13, _⟩ := forL_inv (g := gNm 10) (b := s_law_2) (fun i σ h => ∃ c xs l q10 q12 q13, h = c :: (t10 ++ [.lst ((xs ++ [l]).map .str)]) ∧ Dr c ∧ σ = LF sc (.tup [v, .str (W v)]) v (.tup [.int (10 ^ 30 - 1), .int (1 - 10 ^ 30), v]) b (W v) (.tup [va, .str (W va)]) p6 (t10.length + 1) q10 o11 q12 q13 ∧ LastOK l ∧ (∀ s ∈ xs ++ [l], Asks s) ∧ xs.length = 2 + 3 * i)
    (rng 0 4) 0 (LF sc (.tup [v, .str (W v)]) v (.tup [.int (10 ^ 30 - 1), .int (1 - 10 ^ 30), v]) b (W v) (.tup [va, .str (W va)]) p6 (t10.length + 1) none o11 none none) (c12 :: (t10 ++ [.lst (([W v, W v ++ [g1]] ++ [g2 :: W v]).map .str)])) ⟨c12, [W v, W v ++ [g1]], g2 :: W v, none, none, none, rfl, hd12, rfl, last0.1, asks0, rfl⟩ (fun i x σ h hx hI => by
      obtain ⟨c, xs, l, q10, q12, q13, rfl, hd, rfl, h1, h2, h3⟩ := hI
      obtain ⟨hi, rfl⟩ := rng_get hx
      obtain ⟨c', xs', l', r12, r13, e, hd', h1', h2', h3'⟩ := texts_turn (sc := sc) (p := .tup [v, .str (W v)]) (vl := v) (gd := .tup [.int (10 ^ 30 - 1), .int (1 - 10 ^ 30), v]) (bd := b) (ag0 := va) (tx := W v) (va := W va) (o6 := p6) (o10 := some (.int (0 + (i : Int)))) (o11 := o11) (o12 := q12) (o13 := q13) (t := t10) hd tl al h1 h2 (by omega)
      exact ⟨_, _, _, _, rfl, .inl e, c', xs', l', _, _, _, rfl, hd', rfl, h1', h2', by omega⟩)
  obtain ⟨h', e14⟩ := tail_ok (σ := LF sc (.tup [v, .str (W v)]) v (.tup [.int (10 ^ 30 - 1), .int (1 - 10 ^ 30), v]) b (W v) (.tup [va, .str (W va)]) p6 (t10.length + 1) q10 o11 q12 q13) (c := c13) (t := t10) (xs := xs ++ [l]) rfl (by simp [LF]) ha13
  refine ⟨h', def_rt rfl ?_⟩
  show sSeq _ _ [some sc, none, none, none, none, none, none, none, none, none, none, none, none, none] _ = _
  rw [seq_nx (σ1 := [some sc, some (.cel 0), none, none, none, none, none, none, none, none, none, none, none, none]) (h1 := [c0]) (by simp [e0])]
  rw [seq_nx (σ1 := [some sc, some (.cel 0), some (.tup [lv, .str (W lv)]), none, none, none, none, none, none, none, none, none, none, none]) (h1 := [c1]) (by simp [e1])]
  rw [seq_nx e2]
  have a3 : m__law_pick [.cel 0, .lst [.int 0, .int 0, .int 0, .int 2, .int 40]] (c2 :: t2) = .ok (.int (k3 : Int)) (c3 :: t2) := e3
  rw [seq_nx (σ1 := [some sc, some (.cel 0), some (.tup [v, .str (W v)]), none, none, none, none, none, none, none, none, none, none, none]) (h1 := c4 :: t2) (by
    simp only [z_sAsg, z_eCall, z_aCons, z_aNil, z_eVar, z_eC, z_eLst, List.set_cons_succ, List.set_cons_zero, List.getElem?_cons_zero, List.getElem?_cons_succ, Res.bind_ok, line_is, List.length_cons, List.length_nil, Nat.reduceAdd, Nat.reduceLeDiff, Nat.zero_add, if_true, a3, e4]
    rfl)]
  rw [seq_nx (σ1 := [some sc, some (.cel 0), some (.tup [v, .str (W v)]), some v, some (.str (W v)), none, none, none, none, none, none, none, none, none]) (h1 := c4 :: t2) (by simp)]
  have a5 : m__law_made [.cel 0, .int 4] (c4 :: t2) = .ok (.tup [v5, .str (W v5)]) (c5 :: (t2 ++ u5)) := e5
  have a6 : m__law_wrapped [.cel 0, .tup [v5, .str (W v5)], .int 1] (c5 :: (t2 ++ u5)) = .ok (.tup [va, .str (W va)]) (c6 :: (t2 ++ u5)) := e6
  rw [seq_nx (σ1 := L0 sc (.tup [v, .str (W v)]) v (.str (W v)) (.tup [va, .str (W va)]) none none) (h1 := c6 :: (t2 ++ u5)) (by
    simp only [z_sAsg, z_eCall, z_aCons, z_aNil, z_eVar, z_eC, List.getElem?_cons_zero, List.getElem?_cons_succ, Res.bind_ok, a5, a6]
    rfl)]
  rw [seq_nx (for_seq (h1 := c6 :: (t2 ++ u5)) (xs := [.tup [v, .str (W v)], .tup [va, .str (W va)], .tup [v, .str (W v)]]) (by rfl) e7)]
  rw [seq_nx (σ1 := [some sc, some (.cel 0), some (.tup [v, .str (W v)]), some v, some (.str (W v)), some (.tup [va, .str (W va)]), o6, some (.tup [.int (10 ^ 30 - 1), .int (1 - 10 ^ 30), v]), none, none, none, o11, none, none]) (h1 := c7 :: t7) (by simp [L0])]
  have a8 : m_write_value [.tup [.int (10 ^ 30 - 1), .int (1 - 10 ^ 30), v]] (c7 :: t7) = .ok (.str (W (.tup [.int (10 ^ 30 - 1), .int (1 - 10 ^ 30), v]))) (c7 :: (t7 ++ u8)) := e8
  rw [W_three] at a8
  generalize hGD : AV.tup [.int (10 ^ 30 - 1), .int (1 - 10 ^ 30), v] = GD at *
  rw [seq_nx (if_no (h1 := c7 :: (t7 ++ u8)) (by
    have n := nines_ok (σ := [some sc, some (.cel 0), some (.tup [v, .str (W v)]), some v, some (.str (W v)), some (.tup [va, .str (W va)]), o6, some GD, none, none, none, o11, none, none]) (h := c7 :: (t7 ++ u8)) (tx := W v) rfl (by omega)
    generalize [40] ++ List.replicate 30 57 ++ [32, 45] ++ List.replicate 30 57 ++ [32] ++ W v ++ [41] = TX at a8 n
    have w8 : eCall m_write_value (aCons (eVar 7) (aNil)) [some sc, some (.cel 0), some (.tup [v, .str (W v)]), some v, some (.str (W v)), some (.tup [va, .str (W va)]), o6, some GD, none, none, none, o11, none, none] (c7 :: t7) = .ok (.str TX) (c7 :: (t7 ++ u8)) := a8
    rw [z_tB, z_eOp2, w8, Res.bind_ok, n]
    simp only [Res.bind_ok, z_neS, beq_self_eq_true, Bool.not_true]))]
  rw [seq_nx (σ1 := [some sc, some (.cel 0), some (.tup [v, .str (W v)]), some v, some (.str (W v)), some (.tup [va, .str (W va)]), o6, some GD, some b, none, none, o11, none, none]) (h1 := c9 :: (t7 ++ u8)) (by
    simp only [z_sAsg, z_eCall, z_aCons, z_aNil, z_eVar, List.getElem?_cons_zero, List.getElem?_cons_succ, Res.bind_ok, e9]
    rfl)]
  rw [seq_nx (for_seq (h1 := c9 :: (t7 ++ u8)) (xs := [b, .tup [v, b], .tup [b, .int (10 ^ 30 - 1), .int (1 - 10 ^ 30), v], .tup [.tup [], .tup [.tup [v, .tup [b, .int 0]]]], .int (10 ^ 30), .tup [v, .int (-10 ^ 30)]]) (by
    subst hGD
    simp) e10)]
  have b1 : (W v).length + [g1].length ≤ 16777216 := by simp only [List.length_cons, List.length_nil]; omega
  have b2 : [g2].length + (W v).length ≤ 16777216 := by simp only [List.length_cons, List.length_nil]; omega
  rw [seq_nx (σ1 := LF sc (.tup [v, .str (W v)]) v GD b (W v) (.tup [va, .str (W va)]) p6 (t10.length + 1) none o11 none none) (h1 := c12 :: (t10 ++ [.lst (([W v, W v ++ [g1]] ++ [g2 :: W v]).map .str)])) (by
    simp only [z_sAsg, z_eLstC, z_eCall, z_aCons, z_aNil, z_eVar, z_eOp2, z_eC, List.getElem?_cons_zero, List.getElem?_cons_succ, Res.bind_ok, e11, e12, addS_ok b1, addS_ok b2, line_is, List.length_cons, List.length_nil, Nat.reduceAdd, Nat.reduceLeDiff, Nat.zero_add, if_true]
    rfl)]
  rw [seq_nx (for_seq (h1 := c12 :: (t10 ++ [.lst (([W v, W v ++ [g1]] ++ [g2 :: W v]).map .str)])) (xs := rng 0 4) (by rfl) e13)]
  exact e14
end Lk94

end

section
open PySem PySem.W PyProof.Rows MiS Lk94
set_option maxRecDepth 100000 in
set_option maxHeartbeats 0 in
theorem PySem.Challenge.cw_deedoath_k94_values_written_holds : PySem.Challenge.rw_deedoath_k94_values_written.Holds := by
  w_on; o_law; k_head; (case hw => w_witness2)
  k_fill
  refine L2.walk_of (l := PySem.Challenge.rw_deedoath_k94_values_written) (n := 63) (k := 204) (x := "script") (CX := fun w => L2N.CX PySem.Challenge.pw_deedoath_k94_values_written w) (sp := fun w => spLaw 63 _) rfl (by decide) rfl ⟨rfl, by decide, by decide⟩ (fun w h Y => PySem.W.kIn_of Y) ?F (fun w H a ns hl hO hS => spLaw_here H a ns hl hO hS) (fun w H s e s' h => cx_none H s e s' h)
  case F =>
    intro w mg fa h KX G hmg
    refine at_mk KX (n := "DeedError") (by k_is) fun a_DeedError => ?_
    refine at_mk KX (n := "BadValue") (by k_is) fun a_BadValue => ?_
    have h_DeedError := clf_mk (name := "DeedError") (up := PySem.HandSPX.veTail) (cl := (clOf [("DeedError", adr a_DeedError), ("BadValue", adr a_BadValue)])) (flds := flds) KX G a_DeedError rfl (by k_is) (by k_is) (by k_is) (by k_is) (nof_cons (f := "at") (by k_is) nof_nil)
    have h_BadValue := clf_mk (name := "BadValue") (up := (.ref (adr a_DeedError) :: PySem.HandSPX.veTail)) (cl := (clOf [("DeedError", adr a_DeedError), ("BadValue", adr a_BadValue)])) (flds := flds) KX G a_BadValue rfl (by k_is) (by k_is) (by k_is) (by k_is) (nof_cons (f := "at") (by k_is) nof_nil)
    have sup := mg_none_of (n := "super") KX G (by k_is)
    have x_BadValue := xdef_mk (P := PySem.Challenge.pw_deedoath_k94_values_written) (name := "BadValue") (fs := ["at"]) h_DeedError h_BadValue sup (by k_is) (by k_is) (by k_is) (by k_is) (by k_is) (by k_is) (by k_is) (by k_is) (by k_is) (by k_is) (nof_cons (f := "at") (by k_is) nof_nil) (by rfl) (by decide +kernel) (by decide) (by exact (.cons .nil)) (by rfl) (by rfl) (by rfl) (by rfl) (by rfl) (by decide +kernel) (by decide +kernel) (by exact ⟨_, rfl, rfl⟩) (by exact fun s us hl => match us, hl with | [_, _], _ => .of_eq rfl) (by rfl) (by first | rfl | decide +kernel) (by exact fun env => ⟨_, rfl⟩) (by decide +kernel) (by decide)
    have b_abs := mg_none_of (n := "abs") KX G (by k_is)
    have b_bool := mg_none_of (n := "bool") KX G (by k_is)
    have b_int := mg_none_of (n := "int") KX G (by k_is)
    have b_isinstance := mg_none_of (n := "isinstance") KX G (by k_is)
    have b_len := mg_none_of (n := "len") KX G (by k_is)
    have b_list := mg_none_of (n := "list") KX G (by k_is)
    have b_ord := mg_none_of (n := "ord") KX G (by k_is)
    have b_range := mg_none_of (n := "range") KX G (by k_is)
    have b_str := mg_none_of (n := "str") KX G (by k_is)
    have b_tuple := mg_none_of (n := "tuple") KX G (by k_is)
    have d__law_begin := df_mk (x := "_law_begin") (st := st__law_begin) (ps := ["script"]) KX G (by k_is) (by k_is) (by k_is) (by k_is) fun _ _ _ _ _ _ us hl => match us, hl with | [_], _ => rfl
    have d__law_draw := df_mk (x := "_law_draw") (st := st__law_draw) (ps := ["d", "many"]) KX G (by k_is) (by k_is) (by k_is) (by k_is) fun _ _ _ _ _ _ us hl => match us, hl with | [_, _], _ => rfl
    have d__law_pick := df_mk (x := "_law_pick") (st := st__law_pick) (ps := ["d", "row"]) KX G (by k_is) (by k_is) (by k_is) (by k_is) fun _ _ _ _ _ _ us hl => match us, hl with | [_, _], _ => rfl
    have d__law_number := df_mk (x := "_law_number") (st := st__law_number) (ps := ["d", "many"]) KX G (by k_is) (by k_is) (by k_is) (by k_is) fun _ _ _ _ _ _ us hl => match us, hl with | [_, _], _ => rfl
    have d__law_signs := df_mk (x := "_law_signs") (st := st__law_signs) (ps := []) KX G (by k_is) (by k_is) (by k_is) (by k_is) fun _ _ _ _ _ _ us hl => match us, hl with | [], _ => rfl
    have d__law_leaf_made := df_mk (x := "_law_leaf_made") (st := st__law_leaf_made) (ps := ["d"]) KX G (by k_is) (by k_is) (by k_is) (by k_is) fun _ _ _ _ _ _ us hl => match us, hl with | [_], _ => rfl
    have d__law_wrapped := df_mk (x := "_law_wrapped") (st := st__law_wrapped) (ps := ["d", "pair", "many"]) KX G (by k_is) (by k_is) (by k_is) (by k_is) fun _ _ _ _ _ _ us hl => match us, hl with | [_, _, _], _ => rfl
    have d__law_bad_leaf := df_mk (x := "_law_bad_leaf") (st := st__law_bad_leaf) (ps := ["d"]) KX G (by k_is) (by k_is) (by k_is) (by k_is) fun _ _ _ _ _ _ us hl => match us, hl with | [_], _ => rfl
    have d__law_made := df_mk (x := "_law_made") (st := st__law_made) (ps := ["d", "many"]) KX G (by k_is) (by k_is) (by k_is) (by k_is) fun _ _ _ _ _ _ us hl => match us, hl with | [_, _], _ => rfl
    have d_is_written_sign := df_mk (x := "is_written_sign") (st := st_is_written_sign) (ps := ["sign"]) KX G (by k_is) (by k_is) (by k_is) (by k_is) fun _ _ _ _ _ _ us hl => match us, hl with | [_], _ => rfl
    have d_write_text := df_mk (x := "write_text") (st := st_write_text) (ps := ["text"]) KX G (by k_is) (by k_is) (by k_is) (by k_is) fun _ _ _ _ _ _ us hl => match us, hl with | [_], _ => rfl
    have d_write_leaf := df_mk (x := "write_leaf") (st := st_write_leaf) (ps := ["value"]) KX G (by k_is) (by k_is) (by k_is) (by k_is) fun _ _ _ _ _ _ us hl => match us, hl with | [_], _ => rfl
    have d_write_value := df_mk (x := "write_value") (st := st_write_value) (ps := ["value"]) KX G (by k_is) (by k_is) (by k_is) (by k_is) fun _ _ _ _ _ _ us hl => match us, hl with | [_], _ => rfl
    have d__law_is_int := df_mk (x := "_law_is_int") (st := st__law_is_int) (ps := ["thing"]) KX G (by k_is) (by k_is) (by k_is) (by k_is) fun _ _ _ _ _ _ us hl => match us, hl with | [_], _ => rfl
    have d__law_refuses := df_mk (x := "_law_refuses") (st := st__law_refuses) (ps := ["value"]) KX G (by k_is) (by k_is) (by k_is) (by k_is) fun _ _ _ _ _ _ us hl => match us, hl with | [_], _ => rfl
    have d__law_turned := df_mk (x := "_law_turned") (st := st__law_turned) (ps := ["d", "text"]) KX G (by k_is) (by k_is) (by k_is) (by k_is) fun _ _ _ _ _ _ us hl => match us, hl with | [_, _], _ => rfl
    have d__law_same := df_mk (x := "_law_same") (st := st__law_same) (ps := ["one", "other"]) KX G (by k_is) (by k_is) (by k_is) (by k_is) fun _ _ _ _ _ _ us hl => match us, hl with | [_, _], _ => rfl
    have d_is_plain := df_mk (x := "is_plain") (st := st_is_plain) (ps := ["value"]) KX G (by k_is) (by k_is) (by k_is) (by k_is) fun _ _ _ _ _ _ us hl => match us, hl with | [_], _ => rfl
    have d_closed_tuples := df_mk (x := "closed_tuples") (st := st_closed_tuples) (ps := ["text", "at", "made", "value"]) KX G (by k_is) (by k_is) (by k_is) (by k_is) fun _ _ _ _ _ _ us hl => match us, hl with | [_, _, _, _], _ => rfl
    have d_figures_end := df_mk (x := "figures_end") (st := st_figures_end) (ps := ["text", "at"]) KX G (by k_is) (by k_is) (by k_is) (by k_is) fun _ _ _ _ _ _ us hl => match us, hl with | [_, _], _ => rfl
    have d_read_text := df_mk (x := "read_text") (st := st_read_text) (ps := ["text", "at"]) KX G (by k_is) (by k_is) (by k_is) (by k_is) fun _ _ _ _ _ _ us hl => match us, hl with | [_, _], _ => rfl
    have d_read_leaf := df_mk (x := "read_leaf") (st := st_read_leaf) (ps := ["text", "at"]) KX G (by k_is) (by k_is) (by k_is) (by k_is) fun _ _ _ _ _ _ us hl => match us, hl with | [_, _], _ => rfl
    have d_read_value := df_mk (x := "read_value") (st := st_read_value) (ps := ["text"]) KX G (by k_is) (by k_is) (by k_is) (by k_is) fun _ _ _ _ _ _ us hl => match us, hl with | [_], _ => rfl
    have d__law_odd := df_mk (x := "_law_odd") (st := st__law_odd) (ps := ["d", "value"]) KX G (by k_is) (by k_is) (by k_is) (by k_is) fun _ _ _ _ _ _ us hl => match us, hl with | [_, _], _ => rfl
    have d__law_leaf_of := df_mk (x := "_law_leaf_of") (st := st__law_leaf_of) (ps := ["word"]) KX G (by k_is) (by k_is) (by k_is) (by k_is) fun _ _ _ _ _ _ us hl => match us, hl with | [_], _ => rfl
    have d__law_goes_on := df_mk (x := "_law_goes_on") (st := st__law_goes_on) (ps := ["word", "sign"]) KX G (by k_is) (by k_is) (by k_is) (by k_is) fun _ _ _ _ _ _ us hl => match us, hl with | [_, _], _ => rfl
    have d__law_read := df_mk (x := "_law_read") (st := st__law_read) (ps := ["text"]) KX G (by k_is) (by k_is) (by k_is) (by k_is) fun _ _ _ _ _ _ us hl => match us, hl with | [_], _ => rfl
    have d__law_asked := df_mk (x := "_law_asked") (st := st__law_asked) (ps := ["text"]) KX G (by k_is) (by k_is) (by k_is) (by k_is) fun _ _ _ _ _ _ us hl => match us, hl with | [_], _ => rfl
    have d_law := df_mk (x := "law") (st := st_law) (ps := ["script"]) KX G (by k_is) (by k_is) (by k_is) (by k_is) fun _ _ _ _ _ _ us hl => match us, hl with | [_], _ => rfl
    have kt_BARRED_SIGNS := kt_mk (x := "BARRED_SIGNS") (vs := [.int 37, .int 39, .int 59]) (xs := [.int 37, .int 39, .int 59]) KX G (by k_is) (by k_is) (by rfl) (by rfl) (by decide) (by exact (.cons ⟨_, rfl⟩ (.cons ⟨_, rfl⟩ (.cons ⟨_, rfl⟩ .nil)))) (rl_int (rl_int (rl_int rl_nil)))
    have T : Txt PySem.Challenge.pw_deedoath_k94_values_written (L2.KOf KX) mg (clOf [("DeedError", adr a_DeedError), ("BadValue", adr a_BadValue)]) := {
      b_abs := b_abs
      b_bool := b_bool
      b_int := b_int
      b_isinstance := b_isinstance
      b_len := b_len
      b_list := b_list
      b_ord := b_ord
      b_range := b_range
      b_str := b_str
      b_tuple := b_tuple
      c_BARRED_SIGNS := kt_BARRED_SIGNS
      c_FIGURES := gs_mk KX G (by k_is) (by decide +kernel)
      c_MOST_FIGURES := ⟨_, mg_of KX G (by k_is)⟩
      tab := xtab_mk h_DeedError (cls_cons (by decide) h_BadValue cls_nil)
      mgc_DeedError := mg_of KX G a_DeedError
      mg_DeedError := mg_of KX G a_DeedError
      cl_DeedError := rfl
      mgc_BadValue := mg_of KX G a_BadValue
      mg_BadValue := mg_of KX G a_BadValue
      cl_BadValue := rfl
      x_BadValue := x_BadValue
      d__law_begin := d__law_begin
      d__law_draw := d__law_draw
      d__law_pick := d__law_pick
      d__law_number := d__law_number
      d__law_signs := d__law_signs
      d__law_leaf_made := d__law_leaf_made
      d__law_wrapped := d__law_wrapped
      d__law_bad_leaf := d__law_bad_leaf
      d__law_made := d__law_made
      d_is_written_sign := d_is_written_sign
      d_write_text := d_write_text
      d_write_leaf := d_write_leaf
      d_write_value := d_write_value
      d__law_is_int := d__law_is_int
      d__law_refuses := d__law_refuses
      d__law_turned := d__law_turned
      d__law_same := d__law_same
      d_is_plain := d_is_plain
      d_closed_tuples := d_closed_tuples
      d_figures_end := d_figures_end
      d_read_text := d_read_text
      d_read_leaf := d_read_leaf
      d_read_value := d_read_value
      d__law_odd := d__law_odd
      d__law_leaf_of := d__law_leaf_of
      d__law_goes_on := d__law_goes_on
      d__law_read := d__law_read
      d__law_asked := d__law_asked
      d_law := d_law
      }
    exact law_fd hmg T.d_law (fun _ _ _ _ _ _ s u => .of_eq rfl) (fun base f fd F => ok_law T F) law_ok

end
