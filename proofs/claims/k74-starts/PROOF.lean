import PyProof.Rows.All
import Wide.All
import OpenK.AllK
import Wide.FinOn
import HandS.ForMost
import HandS.ForExc
import HandS.IsInst
import HandS.TryMany
import HandS.ExcIs
import HandS.HotCalls
import HandS.TupAny
import HandS.TryOnly
import KE.KExcSuper
import HandS.Exc
import HandS.ExcInit
import HandS.ExcField
import KE.KExcIs
import HandS.Defaults
import HandS.WordsExc
import HandS.ExcOwn
import HandS.Style
import HandS.Conv
import HandS.Ends
import PySem.Challenge.RW_deedoath_k74_starts_told
set_option Elab.async false
set_option linter.all false
set_option maxRecDepth 100000
section
set_option maxHeartbeats 4000000
/-! Mi: a small deterministic machine for the part of Python that the program and its laws use.
Values AV (texts as code points, tuples by value, lists that nobody changes by value, cells for lists and dicts that are changed), a heap AH of cells,
results Res, and one combinator for each construct. Plain Lean; MiSim.lean shows that the model of Python does what this machine does. -/
namespace Mi

inductive AV where
  | non
  | bl (b : Bool)
  | int (i : Int)
  | str (s : List Nat)
  | tup (xs : List AV)
  | lst (xs : List AV)
  /-- a list, a tuple (t) that is only read: the script, the module's constants -/
  | scr (t : Bool) (xs : List AV)
  | cel (n : Nat)
  /-- the exception that a suite holds: its class, its fields -/
  | xcp (c : String) (ns : List String) (xs : List AV)
  deriving Inhabited

inductive HC where
  | lst (xs : List AV)
  /-- a dict; t: its keys are tuples of ints and texts, else ints and texts -/
  | dic (t : Bool) (kvs : List (AV × AV))
  deriving Inhabited

abbrev AH := List HC

structure AX where
  cls : String
  ns : List String
  xs : List AV
  deriving Inhabited

inductive Res (α : Type) where
  | ok (a : α) (h : AH)
  | ex (e : AX) (h : AH)
  | no

abbrev AS := List (Option AV)

inductive RS where
  | nx (σ : AS) (h : AH)
  | rt (v : AV) (h : AH)
  | bk (σ : AS) (h : AH)
  | ct (σ : AS) (h : AH)
  | ex (e : AX) (σ : AS) (h : AH)
  | no

abbrev M (α : Type) := AH → Res α
abbrev E := AS → AH → Res AV
abbrev A := AS → AH → Res (List AV)
abbrev T := AS → AH → Res Bool
abbrev O := AS → AH → Res (Option Int)
abbrev S := AS → AH → RS
/-- a target: the slots and the heap behind the assignment -/
abbrev G := AV → AS → AH → Option (AS × AH)

abbrev LINE : Nat := 16777216
/-- small enough for range; the kernel must not count down from the bound -/
def inBig (j : Int) : Bool := decide (j.natAbs.log2 < 62)

def Res.bind {α β : Type} (r : Res α) (f : α → AH → Res β) : Res β :=
  match r with
  | .ok a h => f a h
  | .ex e h => .ex e h
  | .no => .no
@[simp] theorem Res.bind_ok {α β : Type} (a : α) (h : AH) (f : α → AH → Res β) : (Res.ok a h).bind f = f a h := rfl
@[simp] theorem Res.bind_ex {α β : Type} (e : AX) (h : AH) (f : α → AH → Res β) : (Res.ex e h : Res α).bind f = .ex e h := rfl
@[simp] theorem Res.bind_no {α β : Type} (f : α → AH → Res β) : (Res.no : Res α).bind f = .no := rfl

/-- an expression's result in a statement at σ -/
def Res.st {α : Type} (r : Res α) (σ : AS) (f : α → AH → RS) : RS :=
  match r with
  | .ok a h => f a h
  | .ex e h => .ex e σ h
  | .no => .no
@[simp] theorem Res.st_ok {α : Type} (a : α) (h : AH) (σ : AS) (f : α → AH → RS) : (Res.ok a h).st σ f = f a h := rfl
@[simp] theorem Res.st_ex {α : Type} (e : AX) (h : AH) (σ : AS) (f : α → AH → RS) : (Res.ex e h : Res α).st σ f = .ex e σ h := rfl
@[simp] theorem Res.st_no {α : Type} (σ : AS) (f : α → AH → RS) : (Res.no : Res α).st σ f = .no := rfl

/-! ### data -/
def b2i (b : Bool) : Int := if b then 1 else 0
mutual
def AV.eqv : AV → AV → Bool
  | .non, .non => true
  | .bl a, .bl b => a == b
  | .bl a, .int j => b2i a == j
  | .int i, .bl b => i == b2i b
  | .int i, .int j => i == j
  | .str x, .str y => x == y
  | .tup xs, .tup ys => AV.eqvs xs ys
  | .lst xs, .lst ys => AV.eqvs xs ys
  | _, _ => false
def AV.eqvs : List AV → List AV → Bool
  | [], [] => true
  | x :: xs, y :: ys => AV.eqv x y && AV.eqvs xs ys
  | _, _ => false
end
mutual
/-- data without cells, at most d deep -/
def AV.fits : Nat → AV → Bool
  | _, .non => true
  | _, .bl _ => true
  | _, .int _ => true
  | _, .str s => s.all (· < 1114112)
  | 0, .tup _ => false
  | 0, .lst _ => false
  | d + 1, .tup xs => AV.fitss d xs
  | d + 1, .lst xs => AV.fitss d xs
  | _, .scr _ _ => false
  | _, .cel _ => false
  | _, .xcp _ _ _ => false
def AV.fitss : Nat → List AV → Bool
  | _, [] => true
  | d, x :: xs => AV.fits d x && AV.fitss d xs
end
def AV.flat : AV → Bool
  | .non => true
  | .bl _ => true
  | .int _ => true
  | .str _ => true
  | _ => false

/-- the list in a cell or by value -/
def lstOf (h : AH) : AV → Option (List AV)
  | .lst xs => some xs
  | .cel n => match h[n]? with
    | some (.lst xs) => some xs
    | _ => none
  | _ => none
def seqOf (h : AH) : AV → Option (List AV)
  | .tup xs => some xs
  | .scr _ xs => some xs
  | v => lstOf h v
/-- a cell's list by value -/
def flatten (h : AH) : AV → AV
  | .cel n => match h[n]? with
    | some (.lst xs) => .lst xs
    | _ => .cel n
  | v => v

def atN (n : Nat) (i : Int) : Option Nat := if 0 ≤ i then (if i < n then some i.toNat else none) else if -(n : Int) ≤ i then some (i + n).toNat else none
def atI {α : Type} (xs : List α) (i : Int) : Option α := (atN xs.length i).bind fun j => xs[j]?
def sIx (n d : Nat) : Option Int → Nat
  | none => d
  | some v => if v < 0 then (v + (n : Int)).toNat else min v.toNat n
def cut {α : Type} (xs : List α) (lo hi : Option Int) : List α := (xs.drop (sIx xs.length 0 lo)).take (sIx xs.length xs.length hi - sIx xs.length 0 lo)

def pre (S l : List Nat) : Bool := l.take S.length == S
def spl (S : List Nat) : Nat → List Nat → List Nat → List (List Nat)
  | _, acc, [] => [acc]
  | 0, acc, c :: r => if pre S (c :: r) = true then acc :: spl S (S.length - 1) [] r else spl S 0 (acc ++ [c]) r
  | k + 1, acc, _ :: r => spl S k acc r
def joinL (S : List Nat) : List (List Nat) → List Nat
  | [] => []
  | [x] => x
  | x :: y :: r => x ++ S ++ joinL S (y :: r)
def strsOf : List AV → Option (List (List Nat))
  | [] => some []
  | .str s :: r => (strsOf r).map (s :: ·)
  | _ :: _ => none
def lenSum (S : List Nat) : List (List Nat) → Nat
  | [] => 0
  | x :: r => x.length + S.length + lenSum S r
def numL (n : Nat) : List Nat := (Nat.toDigits 10 n).map Char.toNat
def intL (i : Int) : List Nat := if i < 0 then 45 :: numL i.natAbs else numL i.natAbs

/-! ### operations by values -/
def oAdd (x y : AV) : M AV := fun h => match x, y with
  | .int i, .int j => .ok (.int (i + j)) h
  | .str s, .str t => if s.length + t.length ≤ LINE then .ok (.str (s ++ t)) h else .no
  | .tup xs, .tup ys => if xs.length + ys.length ≤ LINE then .ok (.tup (xs ++ ys)) h else .no
  | x, y => match lstOf h x, lstOf h y with
    | some xs, some ys => if xs.length + ys.length ≤ LINE then .ok (.lst (xs ++ ys)) h else .no
    | _, _ => .no
def oSub (x y : AV) : M AV := fun h => match x, y with
  | .int i, .int j => .ok (.int (i - j)) h
  | _, _ => .no
/-- x += y of ints and texts -/
def oIadd (x y : AV) : M AV := fun h => match x, y with
  | .int i, .int j => .ok (.int (i + j)) h
  | .str s, .str t => if s.length + t.length ≤ LINE then .ok (.str (s ++ t)) h else .no
  | _, _ => .no
/-- one factor below 2 ^ 64 -/
def oMul (x y : AV) : M AV := fun h => match x, y with
  | .int i, .int j => if (-18446744073709551616 < i ∧ i < 18446744073709551616) ∨ (-18446744073709551616 < j ∧ j < 18446744073709551616) then .ok (.int (i * j)) h else .no
  | _, _ => .no
def oFdiv (x y : AV) : M AV := fun h => match x, y with
  | .int i, .int j => if 0 < j ∧ j < 1073741824 then .ok (.int (i / j)) h else .no
  | _, _ => .no
def oMod (x y : AV) : M AV := fun h => match x, y with
  | .int i, .int j => if 0 < j then .ok (.int (i % j)) h else .no
  | _, _ => .no
def oPow (x y : AV) : M AV := fun h => match x, y with
  | .int i, .int j => if 0 ≤ j ∧ j ≤ 1000000 ∧ i.natAbs < 18446744073709551616 then .ok (.int (i ^ j.toNat)) h else .no
  | _, _ => .no
def oShl (x y : AV) : M AV := fun h => match x, y with
  | .int i, .int j => if 0 ≤ j ∧ j ≤ 1000000 ∧ i.natAbs < 18446744073709551616 then .ok (.int (i * 2 ^ j.toNat)) h else .no
  | _, _ => .no
def oNeg (x : AV) : M AV := fun h => match x with
  | .int i => .ok (.int (-i)) h
  | _ => .no
/-- == of data; both at most 60 deep -/
def oEq (x y : AV) : M AV := fun h => match x, y with
  | .str s, .str t => .ok (.bl (s == t)) h
  | x, y => if (flatten h x).fits 60 && (flatten h y).fits 60 then .ok (.bl ((flatten h x).eqv (flatten h y))) h else .no
def oNe (x y : AV) : M AV := fun h => match x, y with
  | .str s, .str t => .ok (.bl (!(s == t))) h
  | x, y => if (flatten h x).fits 60 && (flatten h y).fits 60 then .ok (.bl (!(flatten h x).eqv (flatten h y))) h else .no
def oLt (x y : AV) : M AV := fun h => match x, y with
  | .int i, .int j => .ok (.bl (decide (i < j))) h
  | _, _ => .no
def oLe (x y : AV) : M AV := fun h => match x, y with
  | .int i, .int j => .ok (.bl (decide (i ≤ j))) h
  | _, _ => .no
def oGt (x y : AV) : M AV := fun h => match x, y with
  | .int i, .int j => .ok (.bl (decide (j < i))) h
  | _, _ => .no
def oGe (x y : AV) : M AV := fun h => match x, y with
  | .int i, .int j => .ok (.bl (decide (j ≤ i))) h
  | _, _ => .no
def AV.isN : AV → Bool
  | .non => true
  | _ => false
/-- is None -/
def oIsN (x : AV) : M AV := fun h => .ok (.bl x.isN) h
def oNotN (x : AV) : M AV := fun h => .ok (.bl (!x.isN)) h
/-- a key: an int or a text; a tuple of such -/
def AV.key1 : AV → Bool
  | .int _ => true
  | .str _ => true
  | _ => false
def AV.keyT : AV → Bool
  | .tup xs => xs.all AV.key1
  | _ => false
def look (kvs : List (AV × AV)) (k : AV) : Option AV := (kvs.find? fun kv => kv.1.eqv k).map (·.2)
def put (kvs : List (AV × AV)) (k v : AV) : List (AV × AV) :=
  if (kvs.any fun kv => kv.1.eqv k) then kvs.map fun kv => if kv.1.eqv k then (kv.1, v) else kv else kvs ++ [(k, v)]
/-- the key is of the dict's kind -/
def keyFor (t : Bool) (k : AV) : Bool := if t then k.keyT else k.key1
def oIn (x y : AV) : M AV := fun h => match x, y with
  | .str [c], .str t => .ok (.bl (decide (c ∈ t))) h
  | x, .tup ys => if x.flat && ys.all AV.flat then .ok (.bl (ys.any fun y => y.eqv x)) h else .no
  | x, .lst ys => if x.flat && ys.all AV.flat then .ok (.bl (ys.any fun y => y.eqv x)) h else .no
  | x, .cel n => match h[n]? with
    | some (.lst ys) => if x.flat && ys.all AV.flat then .ok (.bl (ys.any fun y => y.eqv x)) h else .no
    | some (.dic t kvs) => if keyFor t x then .ok (.bl (look kvs x).isSome) h else .no
    | none => .no
  | _, _ => .no
def oNotIn (x y : AV) : M AV := fun h => (oIn x y h).bind fun v h1 => match v with
  | .bl b => .ok (.bl (!b)) h1
  | _ => .no
/-- x[i] -/
def oIx (x y : AV) : M AV := fun h => match x, y with
  | .str s, .int i => if s.length ≤ LINE then (match atI s i with | some c => .ok (.str [c]) h | none => .no) else .no
  | .tup xs, .int i => match atI xs i with | some v => .ok v h | none => .no
  | .lst xs, .int i => match atI xs i with | some v => .ok v h | none => .no
  | .scr _ xs, .int i => match atI xs i with | some v => .ok v h | none => .no
  | .cel n, y => match h[n]? with
    | some (.lst xs) => (match y with | .int i => (match atI xs i with | some v => .ok v h | none => .no) | _ => .no)
    | some (.dic t kvs) => if keyFor t y then (match look kvs y with | some v => .ok v h | none => .no) else .no
    | none => .no
  | _, _ => .no
/-- x[lo:hi]; a list's slice by value -/
def oSl (x : AV) (lo hi : Option Int) : M AV := fun h => match x with
  | .str s => if s.length ≤ LINE then .ok (.str (cut s lo hi)) h else .no
  | .tup xs => .ok (.tup (cut xs lo hi)) h
  | .scr false xs => .ok (.lst (cut xs lo hi)) h
  | v => match lstOf h v with
    | some xs => .ok (.lst (cut xs lo hi)) h
    | none => .no

/-! ### built-ins by values -/
def cLen : List AV → M AV
  | [x] => fun h => match x with
    | .str s => if s.length ≤ LINE then .ok (.int s.length) h else .no
    | .cel n => (match h[n]? with
      | some (.lst xs) => .ok (.int xs.length) h
      | some (.dic false kvs) => .ok (.int kvs.length) h
      | _ => .no)
    | .tup xs => .ok (.int xs.length) h
    | .lst xs => .ok (.int xs.length) h
    | .scr _ xs => .ok (.int xs.length) h
    | _ => .no
  | _ => fun _ => .no
def cAbs : List AV → M AV
  | [.int i] => fun h => .ok (.int (if i < 0 then -i else i)) h
  | _ => fun _ => .no
def cMax2 : List AV → M AV
  | [.int i, .int j] => fun h => .ok (.int (if j > i then j else i)) h
  | _ => fun _ => .no
def cMin2 : List AV → M AV
  | [.int i, .int j] => fun h => .ok (.int (if j < i then j else i)) h
  | _ => fun _ => .no
/-- int(n), int(flag) -/
def cInt : List AV → M AV
  | [.int i] => fun h => .ok (.int i) h
  | [.bl b] => fun h => .ok (.int (b2i b)) h
  | _ => fun _ => .no
def cStr : List AV → M AV
  | [.int i] => fun h => if i.natAbs.log2 < 1920 then .ok (.str (intL i)) h else .no
  | _ => fun _ => .no
/-- list(xs), by value -/
def cList : List AV → M AV
  | [x] => fun h => match seqOf h x with
    | some xs => .ok (.lst xs) h
    | none => .no
  | _ => fun _ => .no
/-- list(xs), in a cell -/
def cListC : List AV → M AV
  | [x] => fun h => match seqOf h x with
    | some xs => .ok (.cel h.length) (h ++ [.lst xs])
    | none => .no
  | _ => fun _ => .no
def cTuple : List AV → M AV
  | [x] => fun h => match x with
    | .tup xs => .ok (.tup xs) h
    | .scr false xs => .ok (.tup xs) h
    | x => match lstOf h x with
      | some xs => .ok (.tup xs) h
      | none => .no
  | _ => fun _ => .no
/-- list(range(n)) and the like are loops' own; a list in a fresh cell -/
def fresh (v : AV) : M AV := fun h => match lstOf h v with
  | some xs => .ok (.cel h.length) (h ++ [.lst xs])
  | none => .no
def isTy (t : String) : AV → AH → Option Bool
  | .non, _ => some false
  | .bl _, _ => some (t == "bool" || t == "int")
  | .int _, _ => some (t == "int")
  | .str _, _ => some (t == "str")
  | .tup _, _ => some (t == "tuple")
  | .lst _, _ => some (t == "list")
  | .scr _ _, _ => none
  | .xcp _ _ _, _ => none
  | .cel n, h => match h[n]? with
    | some (.lst _) => some (t == "list")
    | some (.dic _ _) => some (t == "dict")
    | none => none
def oIsTy (t : String) (x : AV) : M AV := fun h => match isTy t x h with
  | some b => .ok (.bl b) h
  | none => .no
/-- methods -/
def mJoin (x y : AV) : M AV := fun h => match x, seqOf h y with
  | .str s, some ys => match strsOf ys with
    | some l => if lenSum s l ≤ LINE then .ok (.str (joinL s l)) h else .no
    | none => .no
  | _, _ => .no
def mSplit (x y : AV) : M AV := fun h => match x, y with
  | .str s, .str t => if t ≠ [] ∧ s.length + 2 ≤ LINE ∧ t.all (· < 256) then .ok (.lst ((spl t 0 [] s).map .str)) h else .no
  | _, _ => .no
def mAppend (x y : AV) : M AV := fun h => match x with
  | .cel n => (match h[n]? with
    | some (.lst xs) => if xs.length < LINE then .ok .non (h.set n (.lst (xs ++ [y]))) else .no
    | _ => .no)
  | _ => .no
def mExtend (x y : AV) : M AV := fun h => match x, lstOf h y with
  | .cel n, some ys => (match h[n]? with
    | some (.lst xs) => if xs.length + ys.length ≤ LINE then .ok .non (h.set n (.lst (xs ++ ys))) else .no
    | _ => .no)
  | _, _ => .no
def mPop (x : AV) : M AV := fun h => match x with
  | .cel n => (match h[n]? with
    | some (.lst xs) => (match xs[xs.length - 1]? with
      | some v => .ok v (h.set n (.lst xs.dropLast))
      | none => .no)
    | _ => .no)
  | _ => .no
def mPopAt (x y : AV) : M AV := fun h => match x, y with
  | .cel n, .int i => (match h[n]? with
    | some (.lst xs) => (match atN xs.length i with
      | some k => (match xs[k]? with
        | some v => .ok v (h.set n (.lst (xs.eraseIdx k)))
        | none => .no)
      | none => .no)
    | _ => .no)
  | _, _ => .no
/-- o[i] = v -/
def sPut (o i v : AV) : AH → Option AH := fun h => match o with
  | .cel n => (match h[n]? with
    | some (.lst xs) => (match i with
      | .int k => (match atN xs.length k with
        | some j => some (h.set n (.lst (xs.set j v)))
        | none => none)
      | _ => none)
    | some (.dic t kvs) => if keyFor t i = true ∧ kvs.length < LINE then some (h.set n (.dic t (put kvs i v))) else none
    | none => none)
  | _ => none

/-! ### expressions -/
def eVar (i : Nat) : E := fun σ h => match σ[i]? with
  | some (some v) => .ok v h
  | _ => .no
def eC (v : AV) : E := fun _ h => .ok v h
def eOp1 (f : AV → M AV) (a : E) : E := fun σ h => (a σ h).bind fun x h1 => f x h1
def eOp2 (f : AV → AV → M AV) (a b : E) : E := fun σ h => (a σ h).bind fun x h1 => (b σ h1).bind fun y h2 => f x y h2
def aNil : A := fun _ h => .ok [] h
def aCons (a : E) (r : A) : A := fun σ h => (a σ h).bind fun x h1 => (r σ h1).bind fun xs h2 => .ok (x :: xs) h2
def eCall (f : List AV → M AV) (a : A) : E := fun σ h => (a σ h).bind fun xs h1 => f xs h1
/-- the receiver's type -/
def tyA (T : String) (h : AH) : AV → Bool
  | .str _ => T == "str"
  | .lst _ => T == "list"
  | .cel n => match h[n]? with
    | some (.lst _) => T == "list"
    | some (.dic _ _) => T == "dict"
    | none => false
  | _ => false
/-- o.m(e), m a method of the built-in type T -/
def eM1 (T : String) (f : AV → AV → M AV) (o a : E) : E := fun σ h => (o σ h).bind fun x h1 => if tyA T h1 x = true then (a σ h1).bind fun y h2 => f x y h2 else .no
def eTup (a : A) : E := fun σ h => (a σ h).bind fun xs h1 => if xs.length ≤ LINE then .ok (.tup xs) h1 else .no
/-- a list display: by value; in a cell -/
def eLst (a : A) : E := fun σ h => (a σ h).bind fun xs h1 => if xs.length ≤ LINE then .ok (.lst xs) h1 else .no
def eLstC (a : A) : E := fun σ h => (a σ h).bind fun xs h1 => if xs.length ≤ LINE then .ok (.cel h1.length) (h1 ++ [.lst xs]) else .no
def eDic0 (t : Bool) : E := fun _ h => .ok (.cel h.length) (h ++ [.dic t []])
def oNo : O := fun _ h => .ok none h
def oAt (a : E) : O := fun σ h => (a σ h).bind fun x h1 => match x with
  | .int i => .ok (some i) h1
  | _ => .no
def eSl (a : E) (lo hi : O) : E := fun σ h => (a σ h).bind fun x h1 => (lo σ h1).bind fun l h2 => (hi σ h2).bind fun u h3 => oSl x l u h3
/-- tests -/
def tB (a : E) : T := fun σ h => (a σ h).bind fun x h1 => match x with
  | .bl b => .ok b h1
  | _ => .no
def tAnd (t u : T) : T := fun σ h => (t σ h).bind fun c h1 => if c = true then u σ h1 else .ok false h1
def tOr (t u : T) : T := fun σ h => (t σ h).bind fun c h1 => if c = true then .ok true h1 else u σ h1
def tNot (t : T) : T := fun σ h => (t σ h).bind fun c h1 => .ok (!c) h1
def eAnd (a b : E) : E := fun σ h => (a σ h).bind fun x h1 => match x with
  | .bl true => b σ h1
  | .bl false => .ok (.bl false) h1
  | _ => .no
def eOr (a b : E) : E := fun σ h => (a σ h).bind fun x h1 => match x with
  | .bl true => .ok (.bl true) h1
  | .bl false => b σ h1
  | _ => .no
def eNot (a : E) : E := fun σ h => (a σ h).bind fun x h1 => match x with
  | .bl b => .ok (.bl (!b)) h1
  | _ => .no
def eIf (t : T) (a b : E) : E := fun σ h => (t σ h).bind fun c h1 => if c = true then a σ h1 else b σ h1
def eChain (f g : AV → AV → M AV) (a b c : E) : E := fun σ h => (a σ h).bind fun x h1 => (b σ h1).bind fun y h2 => (f x y h2).bind fun z h3 => match z with
  | .bl true => (c σ h3).bind fun w h4 => g y w h4
  | .bl false => .ok (.bl false) h3
  | _ => .no

/-- xs[::-1] of a list, by value -/
def oRev (x : AV) : M AV := fun h => match seqL h x with
  | some xs => .ok (.lst xs.reverse) h
  | none => .no
where
  seqL (h : AH) : AV → Option (List AV)
    | .scr false xs => some xs
    | v => lstOf h v
/-- list(range(a)), list(range(a, b)): by value; in a cell -/
def rgL (a b : Int) : List AV := (List.range (b - a).toNat).map fun (i : Nat) => AV.int (a + (i : Int))
def rgOk (a b : Int) : Bool := inBig a && inBig b && decide ((b - a).toNat ≤ LINE)
def eLrg (cell : Bool) (a b : E) : E := fun σ h => (a σ h).bind fun x h1 => (b σ h1).bind fun y h2 => match x, y with
  | .int i, .int j => if rgOk i j = true then (if cell = true then .ok (.cel h2.length) (h2 ++ [.lst (rgL i j)]) else .ok (.lst (rgL i j)) h2) else .no
  | _, _ => .no
/-- {k: v, ..}: keys ints and texts -/
def pairs : List (E × E) → AS → AH → Res (List (AV × AV))
  | [], _, h => .ok [] h
  | (k, v) :: r, σ, h => (k σ h).bind fun x h1 => (v σ h1).bind fun y h2 => (pairs r σ h2).bind fun ps h3 => .ok ((x, y) :: ps) h3
def putAll (kvs : List (AV × AV)) (ps : List (AV × AV)) : List (AV × AV) := ps.foldl (fun acc p => put acc p.1 p.2) kvs
def eDsp (es : List (E × E)) : E := fun σ h => (pairs es σ (h ++ [.dic false []])).bind fun ps h1 => match h1[h.length]? with
  | some (.dic false []) => if (ps.all fun p => p.1.key1) = true ∧ ps.length ≤ 15 then .ok (.cel h.length) (h1.set h.length (.dic false (putAll [] ps))) else .no
  | _ => .no

/-! ### what is walked -/
inductive It where
  | seq (xs : List AV)
  /-- the list of a cell, as it stands at each turn -/
  | live (n : Nat)
abbrev I := AS → AH → Res It
def iSeq (a : E) : I := fun σ h => (a σ h).bind fun v h1 => match v with
  | .tup xs => .ok (.seq xs) h1
  | .lst xs => .ok (.seq xs) h1
  | .scr _ xs => .ok (.seq xs) h1
  | .str s => .ok (.seq (s.map fun c => .str [c])) h1
  | .cel n => (match h1[n]? with
    | some (.lst _) => .ok (.live n) h1
    | _ => .no)
  | _ => .no
def rng (lo : Int) (n : Nat) : List AV := (List.range n).map fun (i : Nat) => AV.int (lo + (i : Int))
def iRng1 (a : E) : I := fun σ h => (a σ h).bind fun v h1 => match v with
  | .int j => if inBig j = true then .ok (.seq (rng 0 j.toNat)) h1 else .no
  | _ => .no
def iRng2 (a b : E) : I := fun σ h => (a σ h).bind fun x h1 => (b σ h1).bind fun y h2 => match x, y with
  | .int i, .int j => if inBig i = true then (if inBig j = true then .ok (.seq (rng i (j - i).toNat)) h2 else .no) else .no
  | _, _ => .no

/-! ### targets -/
def gNm (i : Nat) : G := fun v σ h => some (σ.set i (some v), h)
def gAll : List G → List AV → AS → AH → Option (AS × AH)
  | [], [], σ, h => some (σ, h)
  | g :: gs, v :: vs, σ, h => match g v σ h with
    | some (σ1, h1) => gAll gs vs σ1 h1
    | none => none
  | _, _, _, _ => none
/-- a, b, .. of a tuple -/
def gTp (gs : List G) : G := fun v σ h => match v with
  | .tup xs => gAll gs xs σ h
  | v => match lstOf h v with
    | some xs => gAll gs xs σ h
    | none => none

/-! ### comprehensions -/
def wipe (σ : AS) : List Nat → AS
  | [] => σ
  | v :: vs => (wipe σ vs).set v none
/-- the items of a comprehension's list -/
def lcL (g : G) (t : T) (e : E) (σ : AS) : List AV → List AV → AH → Res (List AV)
  | [], acc, h => .ok acc h
  | x :: xs, acc, h => match g x σ h with
    | some (σ1, h1) => (t σ1 h1).bind fun b h2 => if b = true then (if acc.length < LINE then (e σ1 h2).bind fun y h3 => lcL g t e σ xs (acc ++ [y]) h3 else .no) else lcL g t e σ xs acc h2
    | none => .no
def lcC (n : Nat) (g : G) (t : T) (e : E) (σ : AS) : Nat → Nat → List AV → AH → Res (List AV)
  | 0, i, acc, h => match h[n]? with
    | some (.lst xs) => if xs.length ≤ i then .ok acc h else .no
    | _ => .no
  | f + 1, i, acc, h => match h[n]? with
    | some (.lst xs) => (match xs[i]? with
      | none => .ok acc h
      | some x => match g x σ h with
        | some (σ1, h1) => (t σ1 h1).bind fun b h2 => if b = true then (if acc.length < LINE then (e σ1 h2).bind fun y h3 => lcC n g t e σ f (i + 1) (acc ++ [y]) h3 else .no) else lcC n g t e σ f (i + 1) acc h2
        | none => .no)
    | _ => .no
def noEx {α : Type} : Res α → Res α
  | .ex _ _ => .no
  | r => r
def lcOf (it : I) (g : G) (t : T) (e : E) (vs : List Nat) : A := fun σ h => (it σ h).bind fun i h1 => match i with
  | .seq xs => noEx (lcL g t e (wipe σ vs) xs [] h1)
  | .live n => noEx (lcC n g t e (wipe σ vs) (match h1[n]? with | some (.lst xs) => xs.length | _ => 0) 0 [] h1)
/-- [e for ..]: by value; in a cell -/
def eLc (it : I) (g : G) (t : T) (e : E) (vs : List Nat) : E := fun σ h => (lcOf it g t e vs σ h).bind fun xs h1 => .ok (.lst xs) h1
def eLcC (it : I) (g : G) (t : T) (e : E) (vs : List Nat) : E := fun σ h => (lcOf it g t e vs σ h).bind fun xs h1 => .ok (.cel h1.length) (h1 ++ [.lst xs])
def tYes : T := fun _ h => .ok true h

/-! ### statements -/
def sNx : S := fun σ h => .nx σ h
def sBk : S := fun σ h => .bk σ h
def sCt : S := fun σ h => .ct σ h
def sSeq (s t : S) : S := fun σ h => match s σ h with
  | .nx σ1 h1 => t σ1 h1
  | r => r
def oNx : Option (AS × AH) → RS
  | some (σ, h) => .nx σ h
  | none => .no
def sAsg (e : E) (g : G) : S := fun σ h => (e σ h).st σ fun v h1 => oNx (g v σ h1)
/-- a, b = x, y -/
def sPar (i j : Nat) (a b : E) : S := fun σ h => ((a σ h).bind fun v h1 => (b σ h1).bind fun w h2 => .ok (v, w) h2).st σ fun p h2 => .nx ((σ.set i (some p.1)).set j (some p.2)) h2
/-- x op= e -/
def sAug (i : Nat) (f : AV → AV → M AV) (e : E) : S := fun σ h => match σ[i]? with
  | some (some x) => ((e σ h).bind fun y h1 => f x y h1).st σ fun v h1 => .nx (σ.set i (some v)) h1
  | _ => .no
def oSt (σ : AS) : Option AH → RS
  | some h => .nx σ h
  | none => .no
/-- o[i] = v (v first) -/
def sSet (v o i : E) : S := fun σ h => ((v σ h).bind fun x h1 => (o σ h1).bind fun p h2 => (i σ h2).bind fun k h3 => .ok (x, p, k) h3).st σ fun t h1 => oSt σ (sPut t.2.1 t.2.2 t.1 h1)
/-- o[i] op= e -/
def sAugS (f : AV → AV → M AV) (o i e : E) : S := fun σ h => ((o σ h).bind fun p h1 => (i σ h1).bind fun k h2 => (oIx p k h2).bind fun x h3 => (e σ h3).bind fun y h4 => (f x y h4).bind fun z h5 => .ok (z, p, k) h5).st σ fun t h1 => oSt σ (sPut t.2.1 t.2.2 t.1 h1)
def sIf (c : T) (s t : S) : S := fun σ h => (c σ h).st σ fun b h1 => if b = true then s σ h1 else t σ h1
def sRet (e : E) : S := fun σ h => (e σ h).st σ fun v h1 => .rt v h1
def sRetN : S := fun _ h => .rt .non h
def sDrop (e : E) : S := fun σ h => (e σ h).st σ fun _ h1 => .nx σ h1
/-- raise C(e, ..): the fields that its __init__ stores, by the values -/
def sRaise (c : String) (fs : List String) (a : A) : S := fun σ h => (a σ h).st σ fun vs h1 => if vs.length = fs.length then .ex ⟨c, fs.reverse, vs.reverse⟩ σ h1 else .no
def forL (g : G) (b : S) : List AV → S
  | [], σ, h => .nx σ h
  | x :: xs, σ, h => match g x σ h with
    | some (σ1, h1) => (match b σ1 h1 with
      | .nx σ2 h2 => forL g b xs σ2 h2
      | .ct σ2 h2 => forL g b xs σ2 h2
      | .bk σ2 h2 => .nx σ2 h2
      | r => r)
    | none => .no
def forC (n : Nat) (g : G) (b : S) : Nat → Nat → S
  | 0, i, σ, h => match h[n]? with
    | some (.lst xs) => if xs.length ≤ i then .nx σ h else .no
    | _ => .no
  | f + 1, i, σ, h => match h[n]? with
    | some (.lst xs) => (match xs[i]? with
      | none => .nx σ h
      | some x => match g x σ h with
        | some (σ1, h1) => (match b σ1 h1 with
          | .nx σ2 h2 => forC n g b f (i + 1) σ2 h2
          | .ct σ2 h2 => forC n g b f (i + 1) σ2 h2
          | .bk σ2 h2 => .nx σ2 h2
          | r => r)
        | none => .no)
    | _ => .no
def sFor (it : I) (g : G) (b : S) : S := fun σ h => (it σ h).st σ fun i h1 => match i with
  | .seq xs => forL g b xs σ h1
  | .live n => forC n g b (match h1[n]? with | some (.lst xs) => xs.length | _ => 0) 0 σ h1
def whileF (c : T) (b : S) : Nat → S
  | 0, _, _ => .no
  | f + 1, σ, h => (c σ h).st σ fun k h1 => if k = true then (match b σ h1 with
      | .nx σ2 h2 => whileF c b f σ2 h2
      | .ct σ2 h2 => whileF c b f σ2 h2
      | .bk σ2 h2 => .nx σ2 h2
      | r => r) else .nx σ h1
def sWhile (fuel : Nat) (c : T) (b : S) : S := whileF c b fuel
/-- a suite's end: the name (slot) is gone; no exception leaves it -/
def suEnd (o : Option Nat) : RS → RS
  | .nx σ h => .nx (match o with | some i => σ.set i none | none => σ) h
  | .bk σ h => .bk (match o with | some i => σ.set i none | none => σ) h
  | .ct σ h => .ct (match o with | some i => σ.set i none | none => σ) h
  | .rt v h => .rt v h
  | .ex _ _ _ => .no
  | .no => .no
/-- except clauses: the class, the name's slot, the suite -/
abbrev Hd := String × Option Nat × S
/-- sub c d: an exception of the class c is caught by d (none: not told) -/
def handle (sub : String → String → Option Bool) (e : AX) (σ : AS) (h : AH) : List Hd → RS
  | [] => .ex e σ h
  | (c, o, s) :: r => match sub e.cls c with
    | some true => suEnd o (s (match o with | some i => σ.set i (some (.xcp e.cls e.ns e.xs)) | none => σ) h)
    | some false => handle sub e σ h r
    | none => .no
def sTry (sub : String → String → Option Bool) (b : S) (hs : List Hd) : S := fun σ h => match b σ h with
  | .ex e σ1 h1 => handle sub e σ1 h1 hs
  | r => r
/-- e.f of the exception that the suite holds (slot i); isinstance of it -/
def eXf (f : String) (i : Nat) : E := fun σ h => match σ[i]? with
  | some (some (.xcp _ ns xs)) => (match (ns.zip xs).lookup f with
    | some v => .ok v h
    | none => .no)
  | _ => .no
def orAll : List (Option Bool) → Option Bool
  | [] => some false
  | none :: _ => none
  | some b :: r => (orAll r).map (b || ·)
def eXis (sub : String → String → Option Bool) (cs : List String) (i : Nat) : E := fun σ h => match σ[i]? with
  | some (some (.xcp c _ _)) => (match orAll (cs.map (sub c)) with
    | some b => .ok (.bl b) h
    | none => .no)
  | _ => .no

/-! ### defs -/
def start (n : Nat) (vs : List AV) : AS := vs.map some ++ List.replicate (n - vs.length) none
/-- p parameters, n slots -/
def mDef (p n : Nat) (b : S) : List AV → M AV := fun vs h => if vs.length = p then (match b (start n vs) h with
  | .nx _ h1 => .ok .non h1
  | .rt v h1 => .ok v h1
  | .ex e _ h1 => .ex e h1
  | _ => .no) else .no
end Mi

end

section
set_option maxHeartbeats 4000000
/-! MiSim: the model of Python does what Mi does. Over HandS. -/
namespace MiS
open PySem PySem.Spec L2
open PyProof.Rows hiding St
open Mi (AV HC AH AX Res AS RS)

abbrev Fg := PySem.W.Frag
/-- the exception that a suite holds: its slot, where it stands, its class, its dict -/
abbrev Xa := Option (Nat × Addr × String × Addr)
/-- the classes by name; the suite's exception -/
structure Ct where
  cl : String → Value
  xa : Xa
def Ct.hold (ct : Ct) (i : Nat) (a : Addr) (c : String) (d : Addr) : Ct := ⟨ct.cl, some (i, a, c, d)⟩
/-- the slot i holds no exception -/
def Ct.ok (ct : Ct) (i : Nat) : Bool := match ct.xa with
  | none => true
  | some q => q.1 != i
/-- the addresses that nobody reads meanwhile; the suite's exception -/
structure Rv where
  l : List Addr
  xa : Xa
instance : Membership Addr Rv := ⟨fun r a => a ∈ r.l⟩
def Rv.more (r : Rv) (a : Addr) : Rv := ⟨a :: r.l, r.xa⟩
theorem Rv.mem_more {r : Rv} {a b : Addr} : b ∈ r.more a ↔ b = a ∨ b ∈ r := List.mem_cons
theorem Rv.mem_self {r : Rv} {a : Addr} : a ∈ r.more a := Rv.mem_more.mpr (.inl rfl)
theorem Rv.mem_of {r : Rv} {a b : Addr} (h : b ∈ r) : b ∈ r.more a := Rv.mem_more.mpr (.inr h)
/-- where we are: the cells' addresses, the addresses that nobody reads meanwhile, the tracked heap -/
structure Cn where
  ρ : List Addr
  X : Rv
  H : Hp
abbrev Cn.at (c : Cn) (H : Hp) : Cn := ⟨c.ρ, c.X, H⟩
def Fix : HO → Prop
  | .tup _ => True
  | .frz _ _ => True
  | _ => False
structure Ext (c d : Cn) : Prop where
  app : ∃ m, d.ρ = c.ρ ++ m ∧ ∀ a ∈ m, c.H a = none
  out : ∀ a o, c.H a = some o → a ∉ c.ρ → d.H a = some o
  fix : ∀ a o, c.H a = some o → Fix o → d.H a = some o
  on : ∀ a o, c.H a = some o → ∃ o', d.H a = some o'
  res : ∀ a ∈ d.X, a ∈ c.X ∨ c.H a = none
  xa : d.X.xa = c.X.xa
theorem Ext.refl (c : Cn) : Ext c c := ⟨⟨[], by simp, by simp⟩, fun _ _ h _ => h, fun _ _ h _ => h, fun _ o h => ⟨o, h⟩, fun _ h => .inl h, rfl⟩
theorem Ext.off {c d : Cn} (e : Ext c d) {a : Addr} (h : d.H a = none) : c.H a = none := by
  cases q : c.H a with
  | none => rfl
  | some o =>
    obtain ⟨o', z⟩ := e.on a o q
    rw [h] at z
    cases z
theorem Ext.trans {c d f : Cn} (a : Ext c d) (b : Ext d f) : Ext c f := by
  obtain ⟨m, e1, n1⟩ := a.app
  obtain ⟨m', e2, n2⟩ := b.app
  refine ⟨⟨m ++ m', by rw [e2, e1, List.append_assoc], fun x hx => ?_⟩, fun x o h h1 => ?_, fun x o h hf => b.fix x o (a.fix x o h hf) hf, fun x o h => ?_, fun x hx => ?_, b.xa.trans a.xa⟩
  · rcases List.mem_append.mp hx with z | z
    · exact n1 x z
    · exact a.off (n2 x z)
  · refine b.out x o (a.out x o h h1) fun z => ?_
    rw [e1] at z
    rcases List.mem_append.mp z with z | z
    · exact h1 z
    · rw [n1 x z] at h
      cases h
  · obtain ⟨o', z⟩ := a.on x o h
    exact b.on x o' z
  · rcases b.res x hx with z | z
    · exact a.res x z
    · exact .inr (a.off z)
/-- what the module wrote itself -/
def KL (K : Fg) (a : Addr) (xs : List V) : Prop := ∃ (o : Obj) (its : Array Value) (n : Nat), K.lookup a = some o ∧ o.cls = .type "list" ∧ o.dict = none ∧ o.data = .seq its n ∧ its.size ≤ sizeLine ∧ Vals xs its.toList
def KT (K : Fg) (a : Addr) (xs : List V) : Prop := ∃ (o : Obj) (its : Array Value) (n : Nat), K.lookup a = some o ∧ o.cls = .type "tuple" ∧ o.data = .seq its n ∧ its.size ≤ sizeLine ∧ Vals xs its.toList
def LsF (c : Cn) (a : Addr) (xs : List V) : Prop := c.H a = some (.lst xs) ∧ a ∉ c.ρ ∧ a ∉ c.X
/-- a list that is only read: locked, or the module's -/
def RdF (K : Fg) (c : Cn) (a : Addr) (xs : List V) : Prop := (∃ o, c.H a = some (.frz o (.lst xs))) ∨ KL K a xs
theorem LsF.sq {K : Fg} {c : Cn} {a : Addr} {xs : List V} (h : LsF c a xs) : SqL K c.H a xs := .inl (.inl h.1)
theorem RdF.sq {K : Fg} {c : Cn} {a : Addr} {xs : List V} (h : RdF K c a xs) : SqL K c.H a xs := by
  rcases h with ⟨o, h⟩ | h
  · exact .inl (.inr ⟨o, h⟩)
  · exact .inr h
theorem Ext.apart {c d : Cn} (e : Ext c d) {a : Addr} {o : HO} (h : c.H a = some o) (h1 : a ∉ c.ρ) (h2 : a ∉ c.X) : a ∉ d.ρ ∧ a ∉ d.X := by
  obtain ⟨m, em, nm⟩ := e.app
  refine ⟨fun z => ?_, fun z => ?_⟩
  · rw [em] at z
    rcases List.mem_append.mp z with z | z
    · exact h1 z
    · rw [nm a z] at h
      cases h
  · rcases e.res a z with z | z
    · exact h2 z
    · rw [z] at h
      cases h
theorem Ext.ls {c d : Cn} (e : Ext c d) {a : Addr} {xs : List V} (h : LsF c a xs) : LsF d a xs := ⟨e.out _ _ h.1 h.2.1, e.apart h.1 h.2.1 h.2.2⟩
theorem Ext.sc {K : Fg} {c d : Cn} (e : Ext c d) {a : Addr} {xs : List V} (h : RdF K c a xs) : RdF K d a xs := by
  rcases h with ⟨o, h⟩ | h
  · exact .inl ⟨o, e.fix _ _ h trivial⟩
  · exact .inr h
def zipS : List String → List V → List (Str × V)
  | n :: ns, v :: vs => ((n : Str), v) :: zipS ns vs
  | _, _ => []
mutual
/-- v is av -/
def Rep (K : Fg) (c : Cn) : AV → V → Prop
  | .non, v => v = .non
  | .bl b, v => v = .bl b
  | .int i, v => v = .int i
  | .str s, v => v = .str ⟨s.toArray⟩
  | .tup xs, v => ∃ a vs, v = .ref a ∧ c.H a = some (.tup vs) ∧ RepL K c xs vs
  | .lst xs, v => ∃ a vs, v = .ref a ∧ LsF c a vs ∧ RepL K c xs vs
  | .scr false xs, v => ∃ a vs, v = .ref a ∧ RdF K c a vs ∧ RepL K c xs vs
  | .scr true xs, v => ∃ a vs, v = .ref a ∧ KT K a vs ∧ RepL K c xs vs
  | .cel n, v => ∃ a, v = .ref a ∧ c.ρ[n]? = some a
  | .xcp _ _ _, _ => False
def RepL (K : Fg) (c : Cn) : List AV → List V → Prop
  | [], vs => vs = []
  | x :: xs, vs => ∃ v r, vs = v :: r ∧ Rep K c x v ∧ RepL K c xs r
end
mutual
theorem Rep.ext {K : Fg} {c d : Cn} (e : Ext c d) : ∀ (x : AV) {v : V}, Rep K c x v → Rep K d x v
  | .non, _, h => by rw [Rep] at h ⊢; exact h
  | .bl _, _, h => by rw [Rep] at h ⊢; exact h
  | .int _, _, h => by rw [Rep] at h ⊢; exact h
  | .str _, _, h => by rw [Rep] at h ⊢; exact h
  | .tup xs, _, h => by
    rw [Rep] at h ⊢
    obtain ⟨a, vs, h1, h2, h3⟩ := h
    exact ⟨a, vs, h1, e.fix _ _ h2 trivial, RepL.ext e xs h3⟩
  | .lst xs, _, h => by
    rw [Rep] at h ⊢
    obtain ⟨a, vs, h1, h2, h3⟩ := h
    exact ⟨a, vs, h1, e.ls h2, RepL.ext e xs h3⟩
  | .scr false xs, _, h => by
    rw [Rep] at h ⊢
    obtain ⟨a, vs, h1, h2, h3⟩ := h
    exact ⟨a, vs, h1, e.sc h2, RepL.ext e xs h3⟩
  | .scr true xs, _, h => by
    rw [Rep] at h ⊢
    obtain ⟨a, vs, h1, h2, h3⟩ := h
    exact ⟨a, vs, h1, h2, RepL.ext e xs h3⟩
  | .cel n, _, h => by
    rw [Rep] at h ⊢
    obtain ⟨a, h1, h2⟩ := h
    obtain ⟨m, em, _⟩ := e.app
    refine ⟨a, h1, ?_⟩
    rw [em, List.getElem?_append_left (List.getElem?_eq_some_iff.mp h2).1]
    exact h2
  | .xcp _ _ _, _, h => by
    rw [Rep] at h
    exact h.elim
theorem RepL.ext {K : Fg} {c d : Cn} (e : Ext c d) : ∀ (xs : List AV) {vs : List V}, RepL K c xs vs → RepL K d xs vs
  | [], _, h => by rw [RepL] at h ⊢; exact h
  | x :: xs, _, h => by
    rw [RepL] at h ⊢
    obtain ⟨v, r, h1, h2, h3⟩ := h
    exact ⟨v, r, h1, Rep.ext e x h2, RepL.ext e xs h3⟩
end
section
variable {K : Fg} {c : Cn}
theorem rep_non {v : V} : Rep K c .non v ↔ v = .non := by rw [Rep]
theorem rep_bl {b : Bool} {v : V} : Rep K c (.bl b) v ↔ v = .bl b := by rw [Rep]
theorem rep_int {i : Int} {v : V} : Rep K c (.int i) v ↔ v = .int i := by rw [Rep]
theorem rep_str {s : List Nat} {v : V} : Rep K c (.str s) v ↔ v = .str ⟨s.toArray⟩ := by rw [Rep]
theorem rep_tup {xs : List AV} {v : V} : Rep K c (.tup xs) v ↔ ∃ a vs, v = .ref a ∧ c.H a = some (.tup vs) ∧ RepL K c xs vs := by rw [Rep]
theorem rep_lst {xs : List AV} {v : V} : Rep K c (.lst xs) v ↔ ∃ a vs, v = .ref a ∧ LsF c a vs ∧ RepL K c xs vs := by rw [Rep]
theorem rep_scrT {xs : List AV} {v : V} : Rep K c (.scr true xs) v ↔ ∃ a vs, v = .ref a ∧ KT K a vs ∧ RepL K c xs vs := by rw [Rep]
theorem rep_scr {xs : List AV} {v : V} : Rep K c (.scr false xs) v ↔ ∃ a vs, v = .ref a ∧ RdF K c a vs ∧ RepL K c xs vs := by rw [Rep]
theorem rep_cel {n : Nat} {v : V} : Rep K c (.cel n) v ↔ ∃ a, v = .ref a ∧ c.ρ[n]? = some a := by rw [Rep]
theorem rep_xcp {cls : String} {ns : List String} {xs : List AV} {v : V} : Rep K c (.xcp cls ns xs) v ↔ False := by rw [Rep]
theorem repL_nil {vs : List V} : RepL K c [] vs ↔ vs = [] := by rw [RepL]
theorem repL_cons {x : AV} {xs : List AV} {vs : List V} : RepL K c (x :: xs) vs ↔ ∃ v r, vs = v :: r ∧ Rep K c x v ∧ RepL K c xs r := by rw [RepL]
theorem RepL.length : ∀ {xs : List AV} {vs : List V}, RepL K c xs vs → xs.length = vs.length
  | [], _, h => by rw [repL_nil] at h; subst h; rfl
  | x :: xs, _, h => by
    rw [repL_cons] at h
    obtain ⟨v, r, rfl, _, h3⟩ := h
    simp [RepL.length h3]
theorem RepL.get : ∀ {xs : List AV} {vs : List V} {i : Nat} {x : AV}, RepL K c xs vs → xs[i]? = some x → ∃ v, vs[i]? = some v ∧ Rep K c x v
  | [], _, _, _, _, e => by simp at e
  | y :: xs, _, 0, x, h, e => by
    rw [repL_cons] at h
    obtain ⟨v, r, rfl, h2, _⟩ := h
    simp at e
    subst e
    exact ⟨v, rfl, h2⟩
  | y :: xs, _, i + 1, x, h, e => by
    rw [repL_cons] at h
    obtain ⟨v, r, rfl, _, h3⟩ := h
    obtain ⟨w, q1, q2⟩ := RepL.get (i := i) (x := x) h3 (by simpa using e)
    exact ⟨w, by simpa using q1, q2⟩
theorem RepL.back {xs : List AV} {vs : List V} {i : Nat} {v : V} (h : RepL K c xs vs) (e : vs[i]? = some v) : ∃ x, xs[i]? = some x ∧ Rep K c x v := by
  have hi : i < xs.length := by
    rw [h.length]
    exact (List.getElem?_eq_some_iff.mp e).1
  obtain ⟨w, q1, q2⟩ := h.get (List.getElem?_eq_getElem hi)
  rw [e] at q1
  cases q1
  exact ⟨_, List.getElem?_eq_getElem hi, q2⟩
theorem RepL.append : ∀ {xs ys : List AV} {vs ws : List V}, RepL K c xs vs → RepL K c ys ws → RepL K c (xs ++ ys) (vs ++ ws)
  | [], _, _, _, h, g => by rw [repL_nil] at h; subst h; exact g
  | x :: xs, ys, _, ws, h, g => by
    rw [repL_cons] at h
    obtain ⟨v, r, rfl, h2, h3⟩ := h
    show RepL K c (x :: (xs ++ ys)) (v :: (r ++ ws))
    rw [repL_cons]
    exact ⟨v, r ++ ws, rfl, h2, RepL.append h3 g⟩
theorem RepL.one {x : AV} {v : V} (h : Rep K c x v) : RepL K c [x] [v] := by
  rw [repL_cons]
  exact ⟨v, [], rfl, h, by rw [repL_nil]⟩
theorem RepL.cons {x : AV} {v : V} {xs : List AV} {vs : List V} (h : Rep K c x v) (g : RepL K c xs vs) : RepL K c (x :: xs) (v :: vs) := by
  rw [repL_cons]
  exact ⟨v, vs, rfl, h, g⟩
theorem RepL.take : ∀ (n : Nat) {xs : List AV} {vs : List V}, RepL K c xs vs → RepL K c (xs.take n) (vs.take n)
  | 0, _, _, _ => by simp [repL_nil]
  | n + 1, [], _, h => by rw [repL_nil] at h; subst h; simp [repL_nil]
  | n + 1, x :: xs, _, h => by
    rw [repL_cons] at h
    obtain ⟨v, r, rfl, h2, h3⟩ := h
    exact RepL.cons h2 (RepL.take n h3)
theorem RepL.drop : ∀ (n : Nat) {xs : List AV} {vs : List V}, RepL K c xs vs → RepL K c (xs.drop n) (vs.drop n)
  | 0, _, _, h => h
  | n + 1, [], _, h => by rw [repL_nil] at h; subst h; simp [repL_nil]
  | n + 1, x :: xs, _, h => by
    rw [repL_cons] at h
    obtain ⟨v, r, rfl, h2, h3⟩ := h
    exact RepL.drop n h3
theorem RepL.set : ∀ (n : Nat) {xs : List AV} {vs : List V} {x : AV} {v : V}, RepL K c xs vs → Rep K c x v → RepL K c (xs.set n x) (vs.set n v)
  | _, [], _, _, _, h, _ => by rw [repL_nil] at h; subst h; simp [repL_nil]
  | 0, y :: xs, _, x, v, h, g => by
    rw [repL_cons] at h
    obtain ⟨w, r, rfl, h2, h3⟩ := h
    exact RepL.cons g h3
  | n + 1, y :: xs, _, x, v, h, g => by
    rw [repL_cons] at h
    obtain ⟨w, r, rfl, h2, h3⟩ := h
    exact RepL.cons h2 (RepL.set n h3 g)
theorem RepL.erase : ∀ (n : Nat) {xs : List AV} {vs : List V}, RepL K c xs vs → RepL K c (xs.eraseIdx n) (vs.eraseIdx n)
  | _, [], _, h => by rw [repL_nil] at h; subst h; simp [repL_nil]
  | 0, y :: xs, _, h => by
    rw [repL_cons] at h
    obtain ⟨w, r, rfl, h2, h3⟩ := h
    exact h3
  | n + 1, y :: xs, _, h => by
    rw [repL_cons] at h
    obtain ⟨w, r, rfl, h2, h3⟩ := h
    exact RepL.cons h2 (RepL.erase n h3)
theorem RepL.dropLast {xs : List AV} {vs : List V} (h : RepL K c xs vs) : RepL K c xs.dropLast vs.dropLast := by
  rw [List.dropLast_eq_take, List.dropLast_eq_take, h.length]
  exact h.take _
theorem RepL.reverse : ∀ {xs : List AV} {vs : List V}, RepL K c xs vs → RepL K c xs.reverse vs.reverse
  | [], _, h => by rw [repL_nil] at h; subst h; simp [repL_nil]
  | x :: xs, _, h => by
    rw [repL_cons] at h
    obtain ⟨v, r, rfl, h2, h3⟩ := h
    rw [List.reverse_cons, List.reverse_cons]
    exact (RepL.reverse h3).append (RepL.one h2)
theorem RepL.ints (ns : List Int) : RepL K c (ns.map AV.int) (ns.map V.int) := by
  induction ns with
  | nil => simp [repL_nil]
  | cons n r ih => exact RepL.cons (by rw [rep_int]) ih
theorem RepL.strs (ss : List (List Nat)) : RepL K c (ss.map AV.str) (ss.map fun s => V.str ⟨s.toArray⟩) := by
  induction ss with
  | nil => simp [repL_nil]
  | cons n r ih => exact RepL.cons (by rw [rep_str]) ih
end

/-! ### cells -/
/-- a dict's entries: keys are ints and texts | tuples of such -/
def akey : AV → Option Key
  | .int i => some (.inl i)
  | .str s => some (.inr ⟨s.toArray⟩)
  | _ => none
def akeys : List AV → Option (List Key)
  | [] => some []
  | x :: r => match akey x, akeys r with
    | some k, some ks => some (k :: ks)
    | _, _ => none
def akeyT : AV → Option (List Key)
  | .tup xs => akeys xs
  | _ => none
def RepKV {κ : Type} (key : AV → Option κ) (K : Fg) (c : Cn) : List (AV × AV) → List (κ × V) → Prop
  | [], ks => ks = []
  | (a, b) :: r, ks => ∃ k v s, ks = (k, v) :: s ∧ key a = some k ∧ Rep K c b v ∧ RepKV key K c r s
def CellAt (K : Fg) (c : Cn) (a : Addr) : HC → Prop
  | .lst xs => ∃ vs, c.H a = some (.lst vs) ∧ RepL K c xs vs
  | .dic false kvs => ∃ ks, c.H a = some (.dK ks) ∧ RepKV akey K c kvs ks
  | .dic true kvs => ∃ ks, c.H a = some (.dT ks) ∧ RepKV akeyT K c kvs ks
theorem RepKV.ext {κ : Type} {key : AV → Option κ} {K : Fg} {c d : Cn} (e : Ext c d) : ∀ {kvs : List (AV × AV)} {ks : List (κ × V)}, RepKV key K c kvs ks → RepKV key K d kvs ks
  | [], _, h => h
  | (a, b) :: r, _, h => by
    obtain ⟨k, v, s, h1, h2, h3, h4⟩ := h
    exact ⟨k, v, s, h1, h2, h3.ext e, RepKV.ext e h4⟩
structure RepH (K : Fg) (c : Cn) (h : AH) : Prop where
  len : c.ρ.length = h.length
  nd : c.ρ.Nodup
  cell : ∀ (n : Nat) (a : Addr) (o : HC), c.ρ[n]? = some a → h[n]? = some o → CellAt K c a o
  res : ∀ a ∈ c.X, c.H a ≠ none ∧ a ∉ c.ρ
/-- the suite's exception stands in its slot -/
def HoldS (K : Fg) (ct : Ct) (c : Cn) (as : AS) (σ : St) : Prop := match ct.xa with
  | none => True
  | some (i, a, cls, dd) => σ[i]? = some (some (.ref a)) ∧ ∃ ns xs vs, as[i]? = some (some (.xcp cls ns xs)) ∧ c.H dd = some (.xd (zipS ns vs)) ∧ dd ∉ c.ρ ∧ dd ∉ c.X ∧ ns.length = xs.length ∧ RepL K c xs vs
def RepS (K : Fg) (ct : Ct) (c : Cn) (as : AS) (σ : St) : Prop := as.length = σ.length ∧ (∀ (i : Nat) (x : AV), ct.ok i = true → as[i]? = some (some x) → ∃ v, σ[i]? = some (some v) ∧ Rep K c x v) ∧ HoldS K ct c as σ
theorem HoldS.ext {K : Fg} {ct : Ct} {c d : Cn} (e : Ext c d) {as : AS} {σ : St} (h : HoldS K ct c as σ) : HoldS K ct d as σ := by
  unfold HoldS at h ⊢
  split at h
  · trivial
  · obtain ⟨h1, ns, xs, vs, h2, h3, h4, h5, h6, h7⟩ := h
    obtain ⟨q1, q2⟩ := e.apart h3 h4 h5
    exact ⟨h1, ns, xs, vs, h2, e.out _ _ h3 h4, q1, q2, h6, RepL.ext e xs h7⟩
theorem HoldS.set {K : Fg} {ct : Ct} {c : Cn} {as : AS} {σ : St} (h : HoldS K ct c as σ) {i : Nat} (hk : ct.ok i = true) (x : Option AV) (v : Option V) : HoldS K ct c (as.set i x) (σ.set i v) := by
  unfold HoldS at h ⊢
  unfold Ct.ok at hk
  split at h
  · trivial
  · rename_i j a cls dd e
    rw [e] at hk
    have ne : i ≠ j := fun z => by
      subst z
      simp at hk
    obtain ⟨h1, ns, xs, vs, h2, r⟩ := h
    exact ⟨by rw [List.getElem?_set_ne ne]; exact h1, ns, xs, vs, by rw [List.getElem?_set_ne ne]; exact h2, r⟩
theorem RepS.ext {K : Fg} {ct : Ct} {c d : Cn} (e : Ext c d) {as : AS} {σ : St} (h : RepS K ct c as σ) : RepS K ct d as σ :=
  ⟨h.1, fun i x hk hx => let ⟨v, h1, h2⟩ := h.2.1 i x hk hx; ⟨v, h1, h2.ext e⟩, h.2.2.ext e⟩
theorem RepS.set {K : Fg} {ct : Ct} {c : Cn} {as : AS} {σ : St} (h : RepS K ct c as σ) (i : Nat) (hk : ct.ok i = true) {x : AV} {v : V} (r : Rep K c x v) : RepS K ct c (as.set i (some x)) (σ.set i (some v)) := by
  refine ⟨by simp [h.1], fun j y hj hy => ?_, h.2.2.set hk _ _⟩
  by_cases e : i = j
  · subst e
    by_cases hi : i < as.length
    · rw [List.getElem?_set_self hi] at hy
      cases hy
      exact ⟨v, List.getElem?_set_self (by rw [← h.1]; exact hi), r⟩
    · rw [List.getElem?_eq_none (by simpa using hi)] at hy
      cases hy
  · rw [List.getElem?_set_ne e] at hy ⊢
    exact h.2.1 j y hj hy
theorem RepS.gone {K : Fg} {ct : Ct} {c : Cn} {as : AS} {σ : St} (h : RepS K ct c as σ) (i : Nat) (hk : ct.ok i = true) (o : Option V) : RepS K ct c (as.set i none) (σ.set i o) := by
  refine ⟨by simp [h.1], fun j y hj hy => ?_, h.2.2.set hk _ _⟩
  by_cases e : i = j
  · subst e
    by_cases hi : i < as.length
    · rw [List.getElem?_set_self hi] at hy
      cases hy
    · rw [List.getElem?_eq_none (by simpa using hi)] at hy
      cases hy
  · rw [List.getElem?_set_ne e] at hy ⊢
    exact h.2.1 j y hj hy
theorem RepH.kind {K : Fg} {c : Cn} {h : AH} (rh : RepH K c h) {a : Addr} (ha : a ∈ c.ρ) : ∃ o, c.H a = some o ∧ ¬ Fix o := by
  obtain ⟨n, hn⟩ := List.mem_iff_getElem?.mp ha
  have hl : n < h.length := by
    rw [← rh.len]
    exact (List.getElem?_eq_some_iff.mp hn).1
  have z := rh.cell n a _ hn (List.getElem?_eq_getElem hl)
  cases q : h[n] with
  | lst xs =>
    rw [q] at z
    obtain ⟨vs, e, _⟩ := z
    exact ⟨_, e, fun w => w⟩
  | dic t kvs =>
    rw [q] at z
    cases t with
    | false =>
      obtain ⟨ks, e, _⟩ := z
      exact ⟨_, e, fun w => w⟩
    | true =>
      obtain ⟨ks, e, _⟩ := z
      exact ⟨_, e, fun w => w⟩
theorem CellAt.ext {K : Fg} {c d : Cn} (e : Ext c d) {a : Addr} {o : HC} (hs : d.H a = c.H a) (h : CellAt K c a o) : CellAt K d a o := by
  cases o with
  | lst xs =>
    obtain ⟨vs, h1, h2⟩ := h
    exact ⟨vs, hs.trans h1, RepL.ext e _ h2⟩
  | dic t kvs =>
    cases t with
    | false =>
      obtain ⟨ks, h1, h2⟩ := h
      exact ⟨ks, hs.trans h1, h2.ext e⟩
    | true =>
      obtain ⟨ks, h1, h2⟩ := h
      exact ⟨ks, hs.trans h1, h2.ext e⟩
/-- a new object that is no cell -/
theorem ext_new {c : Cn} {p : Addr} {o : HO} (hp : c.H p = none) : Ext c (c.at (upd c.H p o)) :=
  ⟨⟨[], by simp, by simp⟩, fun a u h _ => (upd_ne (ne_of_none h hp)).trans h, fun a u h _ => (upd_ne (ne_of_none h hp)).trans h,
    fun a u h => ⟨u, (upd_ne (ne_of_none h hp)).trans h⟩, fun _ h => .inl h, rfl⟩
theorem RepH.laid {K : Fg} {c : Cn} {h : AH} (rh : RepH K c h) {p : Addr} {o : HO} (hp : c.H p = none) : RepH K (c.at (upd c.H p o)) h := by
  refine ⟨rh.len, rh.nd, fun n a u hn hu => ?_, fun a ha => ?_⟩
  · obtain ⟨o', e, _⟩ := rh.kind (List.mem_of_getElem? hn)
    exact (rh.cell n a u hn hu).ext (ext_new hp) (upd_ne (ne_of_none e hp))
  · obtain ⟨h1, h2⟩ := rh.res a ha
    refine ⟨?_, h2⟩
    show upd c.H p o a ≠ none
    rw [upd_ne (fun z => h1 (by rw [z]; exact hp))]
    exact h1
theorem RepH.new_ne {K : Fg} {c : Cn} {h : AH} (rh : RepH K c h) {p : Addr} (hp : c.H p = none) : p ∉ c.ρ ∧ p ∉ c.X := by
  refine ⟨fun z => ?_, fun z => (rh.res p z).1 hp⟩
  obtain ⟨o, e, _⟩ := rh.kind z
  rw [hp] at e
  cases e
/-- a new cell -/
theorem ext_cell {c : Cn} {p : Addr} {o : HO} (hp : c.H p = none) : Ext c ⟨c.ρ ++ [p], c.X, upd c.H p o⟩ :=
  ⟨⟨[p], rfl, fun a ha => by rw [List.mem_singleton.mp ha]; exact hp⟩, fun a u h _ => by show upd c.H p o a = _; rw [upd_ne (ne_of_none h hp)]; exact h, fun a u h _ => by show upd c.H p o a = _; rw [upd_ne (ne_of_none h hp)]; exact h,
    fun a u h => ⟨u, by show upd c.H p o a = _; rw [upd_ne (ne_of_none h hp)]; exact h⟩, fun _ h => .inl h, rfl⟩
theorem RepH.newcell {K : Fg} {c : Cn} {h : AH} (rh : RepH K c h) {p : Addr} {o : HO} {x : HC} (hp : c.H p = none) (hx : CellAt K ⟨c.ρ ++ [p], c.X, upd c.H p o⟩ p x) : RepH K ⟨c.ρ ++ [p], c.X, upd c.H p o⟩ (h ++ [x]) := by
  obtain ⟨np, nx⟩ := rh.new_ne hp
  refine ⟨by simp [rh.len], ?_, fun n a u hn hu => ?_, fun a ha => ?_⟩
  · rw [List.nodup_append]
    exact ⟨rh.nd, by simp, fun a ha b hb => by rw [List.mem_singleton.mp hb]; exact fun z => np (z ▸ ha)⟩
  · have hn : (c.ρ ++ [p])[n]? = some a := hn
    by_cases hl : n < c.ρ.length
    · rw [List.getElem?_append_left hl] at hn
      rw [List.getElem?_append_left (by rw [← rh.len]; exact hl)] at hu
      obtain ⟨o', e, _⟩ := rh.kind (List.mem_of_getElem? hn)
      exact (rh.cell n a u hn hu).ext (ext_cell hp) (upd_ne (ne_of_none e hp))
    · rw [List.getElem?_append_right (by omega)] at hn
      rw [List.getElem?_append_right (by rw [← rh.len]; omega), ← rh.len] at hu
      have z : n - c.ρ.length = 0 := by
        have := (List.getElem?_eq_some_iff.mp hn).1
        simp at this
        omega
      rw [z] at hn hu
      simp at hn hu
      subst hn hu
      exact hx
  · obtain ⟨h1, h2⟩ := rh.res a ha
    have hap : a ≠ p := fun z => h1 (by rw [z]; exact hp)
    refine ⟨by show upd c.H p o a ≠ none; rw [upd_ne hap]; exact h1, fun z => ?_⟩
    rcases List.mem_append.mp z with z | z
    · exact h2 z
    · exact hap (List.mem_singleton.mp z)
/-- a cell is written -/
theorem ext_write {K : Fg} {c : Cn} {h : AH} (rh : RepH K c h) {p : Addr} {o : HO} (hp : p ∈ c.ρ) : Ext c (c.at (upd c.H p o)) := by
  obtain ⟨u, e, nf⟩ := rh.kind hp
  refine ⟨⟨[], by simp, by simp⟩, fun a w hw h1 => ?_, fun a w hw hf => ?_, fun a w hw => ?_, fun _ z => .inl z, rfl⟩
  · show upd c.H p o a = _
    rw [upd_ne (fun z => h1 (by rw [z]; exact hp))]
    exact hw
  · show upd c.H p o a = _
    rw [upd_ne (fun z => nf (by rw [z, e] at hw; cases hw; exact hf))]
    exact hw
  · by_cases z : a = p
    · exact ⟨o, by show upd c.H p o a = _; rw [z]; exact upd_same⟩
    · exact ⟨w, by show upd c.H p o a = _; rw [upd_ne z]; exact hw⟩
theorem RepH.write {K : Fg} {c : Cn} {h : AH} (rh : RepH K c h) {n : Nat} {p : Addr} {o : HO} {x : HC} (hp : c.ρ[n]? = some p) (hx : CellAt K (c.at (upd c.H p o)) p x) : RepH K (c.at (upd c.H p o)) (h.set n x) := by
  have hm := List.mem_of_getElem? hp
  have hl := (List.getElem?_eq_some_iff.mp hp).1
  refine ⟨by simp [rh.len], rh.nd, fun m a u hm' hu => ?_, fun a ha => ?_⟩
  · by_cases e : n = m
    · subst e
      rw [List.getElem?_set_self (by rw [← rh.len]; exact hl)] at hu
      cases hu
      have hm' : c.ρ[n]? = some a := hm'
      rw [hp] at hm'
      cases hm'
      exact hx
    · rw [List.getElem?_set_ne e] at hu
      refine (rh.cell m a u hm' hu).ext (ext_write rh hm) (upd_ne fun z => e ?_)
      have hm' : c.ρ[m]? = some a := hm'
      obtain ⟨l1, e1⟩ := List.getElem?_eq_some_iff.mp hp
      obtain ⟨l2, e2⟩ := List.getElem?_eq_some_iff.mp hm'
      exact (List.getElem_inj rh.nd).mp (by rw [e1, e2, z])
  · obtain ⟨h1, h2⟩ := rh.res a ha
    refine ⟨?_, h2⟩
    show upd c.H p o a ≠ none
    rw [upd_ne (fun z => h2 (by rw [z]; exact hm))]
    exact h1

/-! ### what Mi computes, as a reading -/
/-- the exception: its class, its own dict -/
def RepX (K : Fg) (ct : Ct) (c : Cn) (cls : Value) (d : Option Addr) (e : AX) : Prop :=
  cls = ct.cl e.cls ∧ ∃ dd vs, d = some dd ∧ c.H dd = some (.xd (zipS e.ns vs)) ∧ dd ∉ c.ρ ∧ dd ∉ c.X ∧ e.ns.length = e.xs.length ∧ RepL K c e.xs vs
theorem RepX.ext {K : Fg} {ct : Ct} {c d : Cn} (e : Ext c d) {cls : Value} {od : Option Addr} {x : AX} (h : RepX K ct c cls od x) : RepX K ct d cls od x := by
  obtain ⟨h1, dd, xs, h2, h3, h4, h5, h6, h7⟩ := h
  obtain ⟨q1, q2⟩ := e.apart h3 h4 h5
  exact ⟨h1, dd, xs, h2, e.out _ _ h3 h4, q1, q2, h6, RepL.ext e _ h7⟩
/-- how a result of Mi is seen -/
abbrev Rl (α β : Type) := Cn → α → β → Prop
def Post (K : Fg) (ct : Ct) (W : WX) {α β : Type} (R : Rl α β) (c : Cn) (σ : St) (Q : β → Hp → Prop) : Res α → Prop
  | .ok a h => ∀ (d : Cn) (b : β), d.X = c.X → Ext c d → RepH K d h → R d a b → Q b d.H
  | .ex e h => ∀ (d : Cn) (cls : Value) (od : Option Addr), d.X = c.X → Ext c d → RepH K d h → RepX K ct d cls od e → W cls od σ d.H
  | .no => False
def tM (K : Fg) (ct : Ct) (W : WX) {α β : Type} (R : Rl α β) (m : AS → AH → Res α) : St → Hp → (β → Hp → Prop) → Prop := fun σ H Q =>
  ∃ (c : Cn) (h : AH) (as : AS), c.H = H ∧ RepH K c h ∧ RepS K ct c as σ ∧ Post K ct W R c σ Q (m as h)
/-- what is carried through a step -/
structure Pk (K : Fg) (ct : Ct) (W : WX) (σ : St) {γ : Type} (c : Cn) (P : Cn → Res γ → Prop) : Prop where
  mono : ∀ (d : Cn) (r : Res γ), d.X = c.X → Ext c d → P c r → P d r
  ex : ∀ (e : AX) (h : AH), P c (.ex e h) → ∀ (d : Cn) (cls : Value) (od : Option Addr), d.X = c.X → Ext c d → RepH K d h → RepX K ct d cls od e → W cls od σ d.H
  no : ¬ P c .no
theorem Post.mono {K : Fg} {ct : Ct} {W : WX} {α β : Type} {R : Rl α β} {c d : Cn} {σ : St} {Q : β → Hp → Prop} {r : Res α} (hx : d.X = c.X) (e : Ext c d) (h : Post K ct W R c σ Q r) : Post K ct W R d σ Q r := by
  cases r with
  | ok a h' => exact fun f b x1 e1 r1 q1 => h f b (x1.trans hx) (e.trans e1) r1 q1
  | ex x h' => exact fun f cls od x1 e1 r1 q1 => h f cls od (x1.trans hx) (e.trans e1) r1 q1
  | no => exact h
theorem Post.pk {K : Fg} {ct : Ct} {W : WX} {α β : Type} {R : Rl α β} {σ : St} {Q : β → Hp → Prop} {c : Cn} : Pk K ct W σ c (fun c r => Post K ct W R c σ Q r) :=
  ⟨fun _ _ hx e h => Post.mono hx e h, fun _ _ h d cls od x1 e1 r1 q1 => h d cls od x1 e1 r1 q1, fun h => h⟩
section
variable {K : Fg} {ct : Ct} {W : WX} {α β γ : Type} {R : Rl α β} {m : AS → AH → Res α} {f : α → AH → Res γ} {P : Cn → Res γ → Prop} {c : Cn} {h : AH} {as : AS} {σ : St} {Q : β → Hp → Prop}
/-- THE STEP -/
theorem tM_bind (pk : Pk K ct W σ c P) (rh : RepH K c h) (rs : RepS K ct c as σ) (hp : P c ((m as h).bind f))
    (k : ∀ (d : Cn) (h1 : AH) (a : α) (b : β), d.X = c.X → Ext c d → RepH K d h1 → RepS K ct d as σ → R d a b → P d (f a h1) → Q b d.H) : tM K ct W R m σ c.H Q := by
  refine ⟨c, h, as, rfl, rh, rs, ?_⟩
  cases e : m as h with
  | ok a h1 =>
    rw [e] at hp
    exact fun d b hx e1 r1 q1 => k d h1 a b hx e1 r1 (rs.ext e1) q1 (pk.mono d _ hx e1 hp)
  | ex x h1 =>
    rw [e] at hp
    exact fun d cls od hx e1 r1 q1 => pk.ex x h1 hp d cls od hx e1 r1 q1
  | no =>
    rw [e] at hp
    exact (pk.no hp).elim
end
theorem tM_bindC {K : Fg} {ct : Ct} {W : WX} {α β γ : Type} {R : Rl α β} {m : AS → AH → Res α} {f : α → AH → Res γ} {P : Cn → Res γ → Prop} {c : Cn} {h : AH} {as : AS} {σ : St} {Q : β → Hp → Prop} (pk : Pk K ct W σ c P) (rh : RepH K c h) (rs : RepS K ct c as σ) (hp : P c ((m as h).bind f))
    (k : ∀ (d : Cn) (h1 : AH) (a : α) (b : β), d.X = c.X → Ext c d → RepH K d h1 → RepS K ct d as σ → R d a b → P c (f a h1) → Q b d.H) : tM K ct W R m σ c.H Q := by
  refine ⟨c, h, as, rfl, rh, rs, ?_⟩
  cases e : m as h with
  | ok a h1 =>
    rw [e] at hp
    exact fun d b hx e1 r1 q1 => k d h1 a b hx e1 r1 (rs.ext e1) q1 hp
  | ex x h1 =>
    rw [e] at hp
    exact fun d cls od hx e1 r1 q1 => pk.ex x h1 hp d cls od hx e1 r1 q1
  | no =>
    rw [e] at hp
    exact (pk.no hp).elim
abbrev RE (K : Fg) : Rl AV V := fun c a v => Rep K c a v
abbrev RA (K : Fg) : Rl (List AV) (List V) := fun c a v => RepL K c a v
abbrev RQ {α : Type} : Rl α α := fun _ a b => a = b
section
variable (ct : Ct) (X : Cx) (W : WX)
abbrev QE (e : Expr) (m : Mi.E) : Prop := PE X e (tM X.K ct W (RE X.K) m)
abbrev QT (e : Expr) (m : Mi.T) : Prop := PT X e (tM X.K ct W RQ m)
abbrev QW (e : Expr) (m : Mi.T) : Prop := PW X e (tM X.K ct W RQ m)
abbrev QA (es : List Expr) (m : Mi.A) : Prop := PA X es (tM X.K ct W (RA X.K) m)
abbrev QO (e : Option Expr) (m : Mi.O) : Prop := PO X e (tM X.K ct W RQ m)
end
theorem PE.imp {X : Cx} {e : Expr} {t u : TE} (p : PE X e t) (h : ∀ σ H Q, u σ H Q → t σ H Q) : PE X e u := ⟨fun pins s σ H Q I q => p.run pins s σ H Q I (h σ H Q q)⟩
theorem PT.imp {X : Cx} {e : Expr} {t u : TT} (p : PT X e t) (h : ∀ σ H Q, u σ H Q → t σ H Q) : PT X e u := ⟨fun pins s σ H Q I q => p.run pins s σ H Q I (h σ H Q q)⟩
theorem PW.imp {X : Cx} {e : Expr} {t u : TT} (p : PW X e t) (h : ∀ σ H Q, u σ H Q → t σ H Q) : PW X e u := ⟨fun wh pins s σ H Q I q => p.run wh pins s σ H Q I (h σ H Q q)⟩
theorem PA.imp {X : Cx} {es : List Expr} {t u : TA} (p : PA X es t) (h : ∀ σ H Q, u σ H Q → t σ H Q) : PA X es u := ⟨fun pos pins s σ H Q I q => p.run pos pins s σ H Q I (h σ H Q q)⟩
theorem PO.imp {X : Cx} {e : Option Expr} {t u : TO} (p : PO X e t) (h : ∀ σ H Q, u σ H Q → t σ H Q) : PO X e u := ⟨fun pins s σ H Q I q => p.run pins s σ H Q I (h σ H Q q)⟩
theorem PS.imp {X : Cx} {st : Stmt} {t u : TS} (p : PS X st t) (h : ∀ D σ H, u D σ H → t D σ H) : PS X st u := ⟨fun pins s σ H D I q => p.run pins s σ H D I (h D σ H q)⟩
theorem PSs.imp {X : Cx} {st : List Stmt} {t u : TS} (p : PSs X st t) (h : ∀ D σ H, u D σ H → t D σ H) : PSs X st u := ⟨fun pins s σ H D I q => p.run pins s σ H D I (h D σ H q)⟩
theorem PG.imp {X : Cx} {e : Expr} {t u : TG} (p : PG X e t) (h : ∀ v σ H Q, u v σ H Q → t v σ H Q) : PG X e u := ⟨fun pins s σ H v w Q I r q => p.run pins s σ H v w Q I r (h v σ H Q q)⟩
theorem PGs.imp {X : Cx} {e : List Expr} {t u : TGs} (p : PGs X e t) (h : ∀ v σ H Q, u v σ H Q → t v σ H Q) : PGs X e u := ⟨fun pins s σ H v w Q I r q => p.run pins s σ H v w Q I r (h v σ H Q q)⟩
theorem PI.imp {X : Cx} {tg e : Expr} {t u : TI} (p : PI X tg e t) (h : ∀ σ H Q, u σ H Q → t σ H Q) : PI X tg e u := ⟨fun pins s σ H R I q => p.run pins s σ H R I (h σ H R q)⟩
end MiS

end

section
set_option maxHeartbeats 4000000
namespace MiS
open PySem PySem.Spec L2
open PyProof.Rows hiding St
open Mi (AV HC AH AX Res AS RS)

/-! ### operations by values -/
def PV (K : Fg) (c : Cn) (Q : VK) : Res AV → Prop
  | .ok a h => ∀ (d : Cn) (v : V), d.X = c.X → Ext c d → RepH K d h → Rep K d a v → Q v d.H
  | _ => False
section
variable {K : Fg} {c : Cn} {h : AH} {Q : VK}
theorem PV.here {a : AV} {v : V} (q : PV K c Q (.ok a h)) (rh : RepH K c h) (r : Rep K c a v) : Q v c.H := q c v rfl (.refl c) rh r
theorem PV.tup {xs : List AV} {vs : List V} {p : Addr} (q : PV K c Q (.ok (.tup xs) h)) (rh : RepH K c h) (r : RepL K c xs vs) (hp : c.H p = none) : Q (.ref p) (upd c.H p (.tup vs)) :=
  q (c.at (upd c.H p (.tup vs))) _ rfl (ext_new hp) (rh.laid hp) (by rw [rep_tup]; exact ⟨p, vs, rfl, upd_same, RepL.ext (ext_new hp) _ r⟩)
theorem PV.lst {xs : List AV} {vs : List V} {p : Addr} (q : PV K c Q (.ok (.lst xs) h)) (rh : RepH K c h) (r : RepL K c xs vs) (hp : c.H p = none) : Q (.ref p) (upd c.H p (.lst vs)) :=
  q (c.at (upd c.H p (.lst vs))) _ rfl (ext_new hp) (rh.laid hp) (by rw [rep_lst]; exact ⟨p, vs, rfl, ⟨upd_same, rh.new_ne hp⟩, RepL.ext (ext_new hp) _ r⟩)
theorem PV.cell {xs : List AV} {vs : List V} {p : Addr} (q : PV K c Q (.ok (.cel h.length) (h ++ [.lst xs]))) (rh : RepH K c h) (r : RepL K c xs vs) (hp : c.H p = none) : Q (.ref p) (upd c.H p (.lst vs)) :=
  q ⟨c.ρ ++ [p], c.X, upd c.H p (.lst vs)⟩ _ rfl (ext_cell hp) (rh.newcell hp ⟨vs, upd_same, RepL.ext (ext_cell hp) _ r⟩) (by
    rw [rep_cel]
    refine ⟨p, rfl, ?_⟩
    show (c.ρ ++ [p])[h.length]? = some p
    rw [← rh.len]
    simp)
theorem PV.dict {p : Addr} (q : PV K c Q (.ok (.cel h.length) (h ++ [.dic false []]))) (rh : RepH K c h) (hp : c.H p = none) : Q (.ref p) (upd c.H p (.dK [])) :=
  q ⟨c.ρ ++ [p], c.X, upd c.H p (.dK [])⟩ _ rfl (ext_cell hp) (rh.newcell hp ⟨[], upd_same, rfl⟩) (by
    rw [rep_cel]
    refine ⟨p, rfl, ?_⟩
    show (c.ρ ++ [p])[h.length]? = some p
    rw [← rh.len]
    simp)
theorem PV.dictT {p : Addr} (q : PV K c Q (.ok (.cel h.length) (h ++ [.dic true []]))) (rh : RepH K c h) (hp : c.H p = none) : Q (.ref p) (upd c.H p (.dT [])) :=
  q ⟨c.ρ ++ [p], c.X, upd c.H p (.dT [])⟩ _ rfl (ext_cell hp) (rh.newcell hp ⟨[], upd_same, rfl⟩) (by
    rw [rep_cel]
    refine ⟨p, rfl, ?_⟩
    show (c.ρ ++ [p])[h.length]? = some p
    rw [← rh.len]
    simp)
theorem PV.write {a : AV} {v : V} {n : Nat} {p : Addr} {o : HO} {x : HC} (q : PV K c Q (.ok a (h.set n x))) (rh : RepH K c h) (hp : c.ρ[n]? = some p) (hx : CellAt K (c.at (upd c.H p o)) p x) (r : Rep K c a v) : Q v (upd c.H p o) :=
  q (c.at (upd c.H p o)) v rfl (ext_write rh (List.mem_of_getElem? hp)) (rh.write hp hx) (r.ext (ext_write rh (List.mem_of_getElem? hp)))
theorem cell_lst {n : Nat} {xs : List AV} {p : Addr} (rh : RepH K c h) (hp : c.ρ[n]? = some p) (hn : h[n]? = some (.lst xs)) : ∃ vs, c.H p = some (.lst vs) ∧ RepL K c xs vs := rh.cell n p _ hp hn
theorem lst_at {a : AV} {xs : List AV} {v : V} (rh : RepH K c h) (r : Rep K c a v) (e : Mi.lstOf h a = some xs) : ∃ p vs, v = .ref p ∧ c.H p = some (.lst vs) ∧ RepL K c xs vs := by
  unfold Mi.lstOf at e
  split at e
  · cases e
    rw [rep_lst] at r
    obtain ⟨p, vs, h1, h2, h3⟩ := r
    exact ⟨p, vs, h1, h2.1, h3⟩
  · split at e
    · cases e
      rename_i n _ hn
      rw [rep_cel] at r
      obtain ⟨p, h1, h2⟩ := r
      obtain ⟨vs, h3, h4⟩ := cell_lst rh h2 hn
      exact ⟨p, vs, h1, h3, h4⟩
    · cases e
  · cases e
theorem seq_at {a : AV} {xs : List AV} {v : V} (rh : RepH K c h) (r : Rep K c a v) (e : Mi.seqOf h a = some xs) : ∃ p vs, v = .ref p ∧ (SqL K c.H p vs ∨ SqT K c.H p vs) ∧ RepL K c xs vs := by
  cases a with
  | tup ys =>
    cases e
    rw [rep_tup] at r
    obtain ⟨p, vs, h1, h2, h3⟩ := r
    exact ⟨p, vs, h1, .inr (.inl (.inl h2)), h3⟩
  | scr t ys =>
    cases e
    cases t with
    | false =>
      rw [rep_scr] at r
      obtain ⟨p, vs, h1, h2, h3⟩ := r
      exact ⟨p, vs, h1, .inl h2.sq, h3⟩
    | true =>
      rw [rep_scrT] at r
      obtain ⟨p, vs, h1, h2, h3⟩ := r
      exact ⟨p, vs, h1, .inr (.inr h2), h3⟩
  | lst ys =>
    obtain ⟨p, vs, h1, h2, h3⟩ := lst_at rh r e
    exact ⟨p, vs, h1, .inl (.inl (.inl h2)), h3⟩
  | cel n =>
    obtain ⟨p, vs, h1, h2, h3⟩ := lst_at rh r e
    exact ⟨p, vs, h1, .inl (.inl (.inl h2)), h3⟩
  | non => cases e
  | bl b => cases e
  | int i => cases e
  | str s => cases e
  | xcp => cases e
end
abbrev line_eq : sizeLine = Mi.LINE := sizeLine_eq
theorem str_len (s : List Nat) : (⟨s.toArray⟩ : Str).length = s.length := by simp [Str.length]
theorem str_app (s t : List Nat) : (⟨s.toArray⟩ : Str) ++ ⟨t.toArray⟩ = ⟨(s ++ t).toArray⟩ := by
  apply Str.ext'
  rw [Str.cps_append]
  simp

def oM1 (K : Fg) (f : AV → Mi.M AV) : V → Hp → VK → Prop := fun x H Q => ∃ (c : Cn) (h : AH) (ax : AV), c.H = H ∧ RepH K c h ∧ Rep K c ax x ∧ PV K c Q (f ax h)
def oM2 (K : Fg) (f : AV → AV → Mi.M AV) : R2 := fun x y H Q => ∃ (c : Cn) (h : AH) (ax ay : AV), c.H = H ∧ RepH K c h ∧ Rep K c ax x ∧ Rep K c ay y ∧ PV K c Q (f ax ay h)
def oMN (K : Fg) (f : List AV → Mi.M AV) : List V → Hp → VK → Prop := fun xs H Q => ∃ (c : Cn) (h : AH) (as : List AV), c.H = H ∧ RepH K c h ∧ RepL K c as xs ∧ PV K c Q (f as h)
/-- an operation raises nothing -/
def Nx1 (f : AV → Mi.M AV) : Prop := ∀ x h e h', f x h ≠ .ex e h'
def Nx2 (f : AV → AV → Mi.M AV) : Prop := ∀ x y h e h', f x y h ≠ .ex e h'
def NxN (f : List AV → Mi.M AV) : Prop := ∀ xs h e h', f xs h ≠ .ex e h'

section
variable {X : Cx}
/-- two ints -/
theorem op_ints {F : Value → Value → Sem Value} {r : R2} {f : AV → AV → Mi.M AV} (ho : OpR X F r) (hf : ∀ ax ay h, (∃ i j, ax = .int i ∧ ay = .int j) ∨ f ax ay h = .no)
    (hg : ∀ (i j : Int) (c : Cn) (h : AH) (Q : VK), RepH X.K c h → PV X.K c Q (f (.int i) (.int j) h) → r (.int i) (.int j) c.H Q) : OpR X F (oM2 X.K f) := by
  intro pins s σ H x y v u Q I rx ry ⟨c, h, ax, ay, e, rh, r1, r2, q⟩
  subst e
  rcases hf ax ay h with ⟨i, j, rfl, rfl⟩ | z
  · rw [rep_int] at r1 r2
    subst r1 r2
    exact ho pins s σ _ _ _ v u Q I rx ry (hg i j c h Q rh q)
  · rw [z] at q
    exact q.elim
theorem op_addM : OpR X (binaryOp .Add) (oM2 X.K Mi.oAdd) := by
  intro pins s σ H x y v u Q I rx ry ⟨c, h, ax, ay, e, rh, r1, r2, q⟩
  subst e
  unfold Mi.oAdd at q
  split at q
  · rw [rep_int] at r1 r2
    subst r1 r2
    exact op_add pins s σ _ _ _ v u Q I rx ry ⟨_, _, rfl, rfl, q.here rh (by rw [rep_int])⟩
  · rw [rep_str] at r1 r2
    subst r1 r2
    split at q
    · rename_i hl
      refine op_add_str pins s σ _ _ _ v u Q I rx ry ⟨_, _, rfl, rfl, by rw [str_len, str_len, line_eq]; exact hl, ?_⟩
      rw [str_app]
      exact q.here rh (by rw [rep_str])
    · exact q.elim
  · rw [rep_tup] at r1 r2
    obtain ⟨a, vs, rfl, h1, l1⟩ := r1
    obtain ⟨b, ws, rfl, h2, l2⟩ := r2
    split at q
    · rename_i hl
      refine op_catA pins s σ _ _ _ v u Q I rx ry ⟨a, b, vs, ws, rfl, rfl, .inl (.inl h1), .inl (.inl h2), by rw [← l1.length, ← l2.length, line_eq]; exact hl, fun z => ?_, fun z1 z2 => ?_, fun z1 z2 p hp => ?_⟩
      · subst z
        have e := l1.length
        have e' := List.length_eq_zero_iff.mp e
        subst e'
        exact q.here rh (by rw [rep_tup]; exact ⟨b, ws, rfl, h2, l2⟩)
      · subst z2
        have e := l2.length
        have e' := List.length_eq_zero_iff.mp e
        subst e'
        rw [List.append_nil] at q
        exact q.here rh (by rw [rep_tup]; exact ⟨a, vs, rfl, h1, l1⟩)
      · exact q.tup rh (l1.append l2) hp
    · exact q.elim
  · split at q
    · rename_i xs ys e1 e2
      split at q
      · rename_i hl
        obtain ⟨a, vs, rfl, h1, l1⟩ := lst_at rh r1 e1
        obtain ⟨b, ws, rfl, h2, l2⟩ := lst_at rh r2 e2
        exact op_cat pins s σ _ _ _ v u Q I rx ry ⟨a, b, vs, ws, rfl, rfl, h1, h2, by rw [← l1.length, ← l2.length, line_eq]; exact hl, fun p hp => q.lst rh (l1.append l2) hp⟩
      · exact q.elim
    · exact q.elim
theorem nx_add : Nx2 Mi.oAdd := by
  intro x y h e h' z
  unfold Mi.oAdd at z
  repeat (first | split at z | cases z)
theorem nx_int {f : AV → AV → Mi.M AV} (hf : ∀ ax ay h, (∃ i j, ax = .int i ∧ ay = .int j) ∨ f ax ay h = .no) (hg : ∀ i j h e h', f (.int i) (.int j) h ≠ .ex e h') : Nx2 f := by
  intro x y h e h' z
  rcases hf x y h with ⟨i, j, rfl, rfl⟩ | w
  · exact hg i j h e h' z
  · rw [w] at z
    cases z
theorem fi_sub : ∀ ax ay h, (∃ i j, ax = .int i ∧ ay = .int j) ∨ Mi.oSub ax ay h = .no := fun ax ay h => by unfold Mi.oSub; split <;> simp
theorem fi_mul : ∀ ax ay h, (∃ i j, ax = .int i ∧ ay = .int j) ∨ Mi.oMul ax ay h = .no := fun ax ay h => by unfold Mi.oMul; split <;> simp
theorem fi_fdiv : ∀ ax ay h, (∃ i j, ax = .int i ∧ ay = .int j) ∨ Mi.oFdiv ax ay h = .no := fun ax ay h => by unfold Mi.oFdiv; split <;> simp
theorem fi_mod : ∀ ax ay h, (∃ i j, ax = .int i ∧ ay = .int j) ∨ Mi.oMod ax ay h = .no := fun ax ay h => by unfold Mi.oMod; split <;> simp
theorem fi_pow : ∀ ax ay h, (∃ i j, ax = .int i ∧ ay = .int j) ∨ Mi.oPow ax ay h = .no := fun ax ay h => by unfold Mi.oPow; split <;> simp
theorem fi_shl : ∀ ax ay h, (∃ i j, ax = .int i ∧ ay = .int j) ∨ Mi.oShl ax ay h = .no := fun ax ay h => by unfold Mi.oShl; split <;> simp
theorem fi_lt : ∀ ax ay h, (∃ i j, ax = .int i ∧ ay = .int j) ∨ Mi.oLt ax ay h = .no := fun ax ay h => by unfold Mi.oLt; split <;> simp
theorem fi_le : ∀ ax ay h, (∃ i j, ax = .int i ∧ ay = .int j) ∨ Mi.oLe ax ay h = .no := fun ax ay h => by unfold Mi.oLe; split <;> simp
theorem fi_gt : ∀ ax ay h, (∃ i j, ax = .int i ∧ ay = .int j) ∨ Mi.oGt ax ay h = .no := fun ax ay h => by unfold Mi.oGt; split <;> simp
theorem fi_ge : ∀ ax ay h, (∃ i j, ax = .int i ∧ ay = .int j) ∨ Mi.oGe ax ay h = .no := fun ax ay h => by unfold Mi.oGe; split <;> simp
theorem op_subM : OpR X (binaryOp .Sub) (oM2 X.K Mi.oSub) := op_ints op_sub fi_sub fun i j c h Q rh q => ⟨i, j, rfl, rfl, PV.here q rh (by rw [rep_int])⟩
theorem mul_case {K : Fg} {c : Cn} {h : AH} {Q : VK} {i j : Int} (rh : RepH K c h) (q : PV K c Q (Mi.oMul (.int i) (.int j) h)) : rI CMul (fun i j => .int (i * j)) (.int i) (.int j) c.H Q := by
  unfold Mi.oMul at q
  dsimp only at q
  split at q
  · rename_i hz
    exact ⟨i, j, rfl, rfl, hz, q.here rh (by rw [rep_int])⟩
  · exact q.elim
theorem op_mulM : OpR X (binaryOp .Mult) (oM2 X.K Mi.oMul) := op_ints op_mul fi_mul fun i j c h Q rh q => mul_case rh q
theorem op_fdivM : OpR X (binaryOp .FloorDiv) (oM2 X.K Mi.oFdiv) := op_ints op_fdiv fi_fdiv fun i j c h Q rh q => by
  unfold Mi.oFdiv at q
  dsimp only at q
  split at q
  · rename_i hz
    exact ⟨i, j, rfl, rfl, hz, q.here rh (by rw [rep_int])⟩
  · exact q.elim
theorem op_modM : OpR X (binaryOp .Mod) (oM2 X.K Mi.oMod) := op_ints op_mod fi_mod fun i j c h Q rh q => by
  unfold Mi.oMod at q
  dsimp only at q
  split at q
  · rename_i hz
    exact ⟨i, j, rfl, rfl, hz, q.here rh (by rw [rep_int])⟩
  · exact q.elim
theorem op_powM : OpR X (binaryOp .Pow) (oM2 X.K Mi.oPow) := op_ints op_pow fi_pow fun i j c h Q rh q => by
  unfold Mi.oPow at q
  dsimp only at q
  split at q
  · rename_i hz
    exact ⟨i, j, rfl, rfl, hz, q.here rh (by rw [rep_int])⟩
  · exact q.elim
theorem op_shlM : OpR X (binaryOp .LShift) (oM2 X.K Mi.oShl) := op_ints op_shl fi_shl fun i j c h Q rh q => by
  unfold Mi.oShl at q
  dsimp only at q
  split at q
  · rename_i hz
    exact ⟨i, j, rfl, rfl, hz, q.here rh (by rw [rep_int])⟩
  · exact q.elim
theorem op_ltM : OpR X (compareOp .Lt) (oM2 X.K Mi.oLt) := op_ints op_lt fi_lt fun i j c h Q rh q => ⟨i, j, rfl, rfl, PV.here q rh (by rw [rep_bl])⟩
theorem op_leM : OpR X (compareOp .LtE) (oM2 X.K Mi.oLe) := op_ints op_le fi_le fun i j c h Q rh q => ⟨i, j, rfl, rfl, PV.here q rh (by rw [rep_bl])⟩
theorem op_gtM : OpR X (compareOp .Gt) (oM2 X.K Mi.oGt) := op_ints op_gt fi_gt fun i j c h Q rh q => ⟨i, j, rfl, rfl, PV.here q rh (by rw [rep_bl])⟩
theorem op_geM : OpR X (compareOp .GtE) (oM2 X.K Mi.oGe) := op_ints op_ge fi_ge fun i j c h Q rh q => ⟨i, j, rfl, rfl, PV.here q rh (by rw [rep_bl])⟩
theorem nx_sub : Nx2 Mi.oSub := nx_int fi_sub fun i j h e h' z => by cases z
theorem nx_lt : Nx2 Mi.oLt := nx_int fi_lt fun i j h e h' z => by cases z
theorem nx_le : Nx2 Mi.oLe := nx_int fi_le fun i j h e h' z => by cases z
theorem nx_gt : Nx2 Mi.oGt := nx_int fi_gt fun i j h e h' z => by cases z
theorem nx_ge : Nx2 Mi.oGe := nx_int fi_ge fun i j h e h' z => by cases z
theorem nx_mul : Nx2 Mi.oMul := nx_int fi_mul fun i j h e h' z => by unfold Mi.oMul at z; dsimp only at z; split at z <;> cases z
theorem nx_fdiv : Nx2 Mi.oFdiv := nx_int fi_fdiv fun i j h e h' z => by unfold Mi.oFdiv at z; dsimp only at z; split at z <;> cases z
theorem nx_mod : Nx2 Mi.oMod := nx_int fi_mod fun i j h e h' z => by unfold Mi.oMod at z; dsimp only at z; split at z <;> cases z
theorem nx_pow : Nx2 Mi.oPow := nx_int fi_pow fun i j h e h' z => by unfold Mi.oPow at z; dsimp only at z; split at z <;> cases z
theorem nx_shl : Nx2 Mi.oShl := nx_int fi_shl fun i j h e h' z => by unfold Mi.oShl at z; dsimp only at z; split at z <;> cases z
/-- += -= of a name -/
theorem iop_addM : OpR X (inplaceOp .Add) (oM2 X.K Mi.oIadd) := by
  intro pins s σ H x y v u Q I rx ry ⟨c, h, ax, ay, e, rh, r1, r2, q⟩
  subst e
  unfold Mi.oIadd at q
  split at q
  · rw [rep_int] at r1 r2
    subst r1 r2
    exact iop_add pins s σ _ _ _ v u Q I rx ry ⟨_, _, rfl, rfl, q.here rh (by rw [rep_int])⟩
  · rw [rep_str] at r1 r2
    subst r1 r2
    split at q
    · rename_i hl
      refine iop_add_str pins s σ _ _ _ v u Q I rx ry ⟨_, _, rfl, rfl, by rw [str_len, str_len, line_eq]; exact hl, ?_⟩
      rw [str_app]
      exact q.here rh (by rw [rep_str])
    · exact q.elim
  · exact q.elim
theorem nx_iadd : Nx2 Mi.oIadd := by
  intro x y h e h' z
  unfold Mi.oIadd at z
  repeat (first | split at z | cases z)
theorem iop_subM : OpR X (inplaceOp .Sub) (oM2 X.K Mi.oSub) := op_ints iop_sub fi_sub fun i j c h Q rh q => ⟨i, j, rfl, rfl, PV.here q rh (by rw [rep_int])⟩
theorem un_negM : UnR X (unaryOp .USub) (oM1 X.K Mi.oNeg) := by
  intro pins s σ H x v Q I rx ⟨c, h, ax, e, rh, r1, q⟩
  subst e
  unfold Mi.oNeg at q
  split at q
  · rw [rep_int] at r1
    subst r1
    exact un_neg pins s σ _ _ v Q I rx ⟨_, rfl, q.here rh (by rw [rep_int])⟩
  · exact q.elim
theorem nx_neg : Nx1 Mi.oNeg := by
  intro x h e h' z
  unfold Mi.oNeg at z
  repeat (first | split at z | cases z)
end

/-! ### data -/
mutual
def pd : AV → PyData
  | .non => .none
  | .bl b => .bool b
  | .int i => .int i
  | .str s => .str ⟨s.toArray⟩
  | .tup xs => .tuple (pds xs)
  | .lst xs => .list (pds xs)
  | .scr _ _ => .none
  | .cel _ => .none
  | .xcp _ _ _ => .none
def pds : List AV → List PyData
  | [] => []
  | x :: xs => pd x :: pds xs
end
theorem b2i_eq (b : Bool) : Mi.b2i b = if b then 1 else 0 := rfl
theorem str_beq (s t : List Nat) : ((⟨s.toArray⟩ : Str) == ⟨t.toArray⟩) = (s == t) := by
  rw [Bool.eq_iff_iff]
  simp
mutual
theorem pd_eqv : ∀ (x y : AV) (d e : Nat), x.fits d = true → y.fits e = true → PyData.eqv (pd x) (pd y) = x.eqv y
  | .non, y, _, _, _, hy => by cases y <;> simp [pd, PyData.eqv, AV.eqv, AV.fits] at hy ⊢
  | .bl b, y, _, _, _, hy => by cases y <;> simp [pd, PyData.eqv, AV.eqv, AV.fits, Mi.b2i] at hy ⊢
  | .int i, y, _, _, _, hy => by cases y <;> simp [pd, PyData.eqv, AV.eqv, AV.fits, Mi.b2i] at hy ⊢
  | .str s, y, _, _, _, hy => by
    cases y with
    | str t => simp only [pd, PyData.eqv, AV.eqv]; exact str_beq s t
    | _ => simp [pd, PyData.eqv, AV.eqv, AV.fits] at hy ⊢
  | .tup xs, y, 0, _, hx, _ => by simp [AV.fits] at hx
  | .tup xs, y, d + 1, 0, hx, hy => by cases y <;> simp [pd, PyData.eqv, AV.eqv, AV.fits] at hy ⊢
  | .tup xs, y, d + 1, e + 1, hx, hy => by
    cases y with
    | tup ys =>
      simp only [pd, PyData.eqv, AV.eqv]
      exact pds_eqv xs ys d e (by simpa [AV.fits] using hx) (by simpa [AV.fits] using hy)
    | _ => simp [pd, PyData.eqv, AV.eqv, AV.fits] at hy ⊢
  | .lst xs, y, 0, _, hx, _ => by simp [AV.fits] at hx
  | .lst xs, y, d + 1, 0, hx, hy => by cases y <;> simp [pd, PyData.eqv, AV.eqv, AV.fits] at hy ⊢
  | .lst xs, y, d + 1, e + 1, hx, hy => by
    cases y with
    | lst ys =>
      simp only [pd, PyData.eqv, AV.eqv]
      exact pds_eqv xs ys d e (by simpa [AV.fits] using hx) (by simpa [AV.fits] using hy)
    | _ => simp [pd, PyData.eqv, AV.eqv, AV.fits] at hy ⊢
  | .scr _ _, _, d, _, hx, _ => by cases d <;> simp [AV.fits] at hx
  | .cel n, _, d, _, hx, _ => by cases d <;> simp [AV.fits] at hx
  | .xcp _ _ _, _, d, _, hx, _ => by cases d <;> simp [AV.fits] at hx
theorem pds_eqv : ∀ (xs ys : List AV) (d e : Nat), AV.fitss d xs = true → AV.fitss e ys = true → PyData.eqvAll (pds xs) (pds ys) = AV.eqvs xs ys
  | [], [], _, _, _, _ => by simp [pds, PyData.eqvAll, AV.eqvs]
  | [], _ :: _, _, _, _, _ => by simp [pds, PyData.eqvAll, AV.eqvs]
  | _ :: _, [], _, _, _, _ => by simp [pds, PyData.eqvAll, AV.eqvs]
  | x :: xs, y :: ys, d, e, hx, hy => by
    simp only [AV.fitss, Bool.and_eq_true] at hx hy
    simp only [pds, PyData.eqvAll, AV.eqvs, pd_eqv x y d e hx.1 hy.1, pds_eqv xs ys d e hx.2 hy.2]
end
mutual
theorem pd_depth : ∀ (x : AV) (d : Nat), x.fits d = true → (pd x).depth ≤ d
  | .non, _, _ => by simp [pd, PyData.depth]
  | .bl _, _, _ => by simp [pd, PyData.depth]
  | .int _, _, _ => by simp [pd, PyData.depth]
  | .str _, _, _ => by simp [pd, PyData.depth]
  | .tup xs, 0, h => by simp [AV.fits] at h
  | .tup xs, d + 1, h => by
    have := pds_depth xs d (by simpa [AV.fits] using h)
    simp only [pd, PyData.depth]
    omega
  | .lst xs, 0, h => by simp [AV.fits] at h
  | .lst xs, d + 1, h => by
    have := pds_depth xs d (by simpa [AV.fits] using h)
    simp only [pd, PyData.depth]
    omega
  | .scr _ _, d, h => by cases d <;> simp [AV.fits] at h
  | .cel _, d, h => by cases d <;> simp [AV.fits] at h
  | .xcp _ _ _, d, h => by cases d <;> simp [AV.fits] at h
theorem pds_depth : ∀ (xs : List AV) (d : Nat), AV.fitss d xs = true → PyData.depthAll (pds xs) ≤ d
  | [], _, _ => by simp [pds, PyData.depthAll]
  | x :: xs, d, h => by
    simp only [AV.fitss, Bool.and_eq_true] at h
    have h1 := pd_depth x d h.1
    have h2 := pds_depth xs d h.2
    simp only [pds, PyData.depthAll]
    omega
end
theorem strOk_of {s : List Nat} (h : s.all (· < 1114112) = true) : PyData.strOk ⟨s.toArray⟩ = true := by
  unfold PyData.strOk
  simpa using h
mutual
theorem pd_can : ∀ (x : AV) (d : Nat), x.fits d = true → (pd x).canLay0 = true
  | .non, _, _ => by simp [pd, PyData.canLay0]
  | .bl _, _, _ => by simp [pd, PyData.canLay0]
  | .int _, _, _ => by simp [pd, PyData.canLay0]
  | .str _, _, h => by
    simp only [pd, PyData.canLay0]
    exact strOk_of (by simpa [AV.fits] using h)
  | .tup xs, 0, h => by simp [AV.fits] at h
  | .tup xs, d + 1, h => by
    simp only [pd, PyData.canLay0]
    exact pds_can xs d (by simpa [AV.fits] using h)
  | .lst xs, 0, h => by simp [AV.fits] at h
  | .lst xs, d + 1, h => by
    simp only [pd, PyData.canLay0]
    exact pds_can xs d (by simpa [AV.fits] using h)
  | .scr _ _, d, h => by cases d <;> simp [AV.fits] at h
  | .cel _, d, h => by cases d <;> simp [AV.fits] at h
  | .xcp _ _ _, d, h => by cases d <;> simp [AV.fits] at h
theorem pds_can : ∀ (xs : List AV) (d : Nat), AV.fitss d xs = true → PyData.canLayAll0 (pds xs) = true
  | [], _, _ => by simp [pds, PyData.canLayAll0]
  | x :: xs, d, h => by
    simp only [AV.fitss, Bool.and_eq_true] at h
    simp only [pds, PyData.canLayAll0, Bool.and_eq_true]
    exact ⟨pd_can x d h.1, pds_can xs d h.2⟩
end
theorem pd_shaped {x : AV} (h : x.fits 60 = true) : SeqAt.shaped (pd x) = true := by
  unfold SeqAt.shaped
  rw [Bool.and_eq_true]
  exact ⟨pd_can x 60 h, decide_eq_true (Nat.le_trans (pd_depth x 60 h) (by decide))⟩
mutual
theorem rep_dp {K : Fg} {c : Cn} : ∀ (x : AV) (d : Nat) {v : V}, x.fits d = true → Rep K c x v → Dp K c.H v (pd x)
  | .non, _, _, _, r => by rw [rep_non] at r; subst r; exact .non
  | .bl b, _, _, _, r => by rw [rep_bl] at r; subst r; exact .bl b
  | .int i, _, _, _, r => by rw [rep_int] at r; subst r; exact .int i
  | .str s, _, _, _, r => by rw [rep_str] at r; subst r; exact .str _
  | .tup xs, 0, _, h, _ => by simp [AV.fits] at h
  | .tup xs, d + 1, _, h, r => by
    rw [rep_tup] at r
    obtain ⟨a, vs, rfl, h1, h2⟩ := r
    exact .tup (.inl (.inl h1)) (rep_dps xs d (by simpa [AV.fits] using h) h2)
  | .lst xs, 0, _, h, _ => by simp [AV.fits] at h
  | .lst xs, d + 1, _, h, r => by
    rw [rep_lst] at r
    obtain ⟨a, vs, rfl, h1, h2⟩ := r
    exact .lst h1.sq (rep_dps xs d (by simpa [AV.fits] using h) h2)
  | .scr _ _, d, _, h, _ => by cases d <;> simp [AV.fits] at h
  | .cel _, d, _, h, _ => by cases d <;> simp [AV.fits] at h
  | .xcp _ _ _, d, _, h, _ => by cases d <;> simp [AV.fits] at h
theorem rep_dps {K : Fg} {c : Cn} : ∀ (xs : List AV) (d : Nat) {vs : List V}, AV.fitss d xs = true → RepL K c xs vs → DpAll K c.H vs (pds xs)
  | [], _, _, _, r => by rw [repL_nil] at r; subst r; exact .nil
  | x :: xs, d, _, h, r => by
    simp only [AV.fitss, Bool.and_eq_true] at h
    rw [repL_cons] at r
    obtain ⟨v, w, rfl, h1, h2⟩ := r
    exact .cons (rep_dp x d h.1 h1) (rep_dps xs d h.2 h2)
end
theorem flat_dp {K : Fg} {c : Cn} {h : AH} {x : AV} {v : V} (rh : RepH K c h) (r : Rep K c x v) (hf : (Mi.flatten h x).fits 60 = true) : Dp K c.H v (pd (Mi.flatten h x)) := by
  unfold Mi.flatten at hf ⊢
  split at hf
  · rename_i n
    split at hf
    · rename_i xs hn
      rw [rep_cel] at r
      obtain ⟨p, rfl, h2⟩ := r
      obtain ⟨vs, h3, h4⟩ := cell_lst rh h2 hn
      exact .lst (.inl (.inl h3)) (rep_dps xs 59 (by simpa [AV.fits] using hf) h4)
    · simp [AV.fits] at hf
  · exact rep_dp _ 60 hf r
section
variable {X : Cx}
theorem op_eqM (hu : X.A.units + 64 < cLine) : OpR X (compareOp .Eq) (oM2 X.K Mi.oEq) := by
  intro pins s σ H x y v u Q I rx ry ⟨c, h, ax, ay, e, rh, r1, r2, q⟩
  subst e
  unfold Mi.oEq at q
  split at q
  · rename_i a b
    rw [rep_str] at r1 r2
    subst r1 r2
    refine op_eq pins s σ _ _ _ v u Q I rx ry ⟨rfl, ?_⟩
    have e : decide (V.str ⟨a.toArray⟩ = V.str ⟨b.toArray⟩) = (a == b) := dec_str.trans (str_beq a b)
    rw [e]
    exact q.here rh (by rw [rep_bl])
  · split at q
    · rename_i hf
      simp only [Bool.and_eq_true] at hf
      refine op_eqD hu pins s σ _ x y v u Q I rx ry ⟨_, _, flat_dp rh r1 hf.1, flat_dp rh r2 hf.2, pd_shaped hf.1, pd_shaped hf.2, ?_⟩
      rw [pd_eqv _ _ 60 60 hf.1 hf.2]
      exact q.here rh (by rw [rep_bl])
    · exact q.elim
theorem op_neM (hu : X.A.units + 64 < cLine) : OpR X (compareOp .NotEq) (oM2 X.K Mi.oNe) := by
  intro pins s σ H x y v u Q I rx ry ⟨c, h, ax, ay, e, rh, r1, r2, q⟩
  subst e
  unfold Mi.oNe at q
  split at q
  · rename_i a b
    rw [rep_str] at r1 r2
    subst r1 r2
    refine op_ne pins s σ _ _ _ v u Q I rx ry ⟨rfl, ?_⟩
    have e : decide (V.str ⟨a.toArray⟩ = V.str ⟨b.toArray⟩) = (a == b) := dec_str.trans (str_beq a b)
    rw [e]
    exact q.here rh (by rw [rep_bl])
  · split at q
    · rename_i hf
      simp only [Bool.and_eq_true] at hf
      refine op_neD hu pins s σ _ x y v u Q I rx ry ⟨_, _, flat_dp rh r1 hf.1, flat_dp rh r2 hf.2, pd_shaped hf.1, pd_shaped hf.2, ?_⟩
      rw [pd_eqv _ _ 60 60 hf.1 hf.2]
      exact q.here rh (by rw [rep_bl])
    · exact q.elim
theorem nx_eq : Nx2 Mi.oEq := by
  intro x y h e h' z
  unfold Mi.oEq at z
  repeat (first | split at z | cases z)
theorem nx_ne : Nx2 Mi.oNe := by
  intro x y h e h' z
  unfold Mi.oNe at z
  repeat (first | split at z | cases z)
/-- is None -/
theorem rep_isN {K : Fg} {c : Cn} {x : AV} {v : V} (r : Rep K c x v) : decide (v = .non) = x.isN := by
  cases x with
  | non => rw [rep_non] at r; subst r; rfl
  | bl b => rw [rep_bl] at r; subst r; rfl
  | int i => rw [rep_int] at r; subst r; rfl
  | str s => rw [rep_str] at r; subst r; rfl
  | tup xs => rw [rep_tup] at r; obtain ⟨a, _, rfl, _⟩ := r; rfl
  | lst xs => rw [rep_lst] at r; obtain ⟨a, _, rfl, _⟩ := r; rfl
  | scr t xs =>
    cases t with
    | false => rw [rep_scr] at r; obtain ⟨a, _, rfl, _⟩ := r; rfl
    | true => rw [rep_scrT] at r; obtain ⟨a, _, rfl, _⟩ := r; rfl
  | cel n => rw [rep_cel] at r; obtain ⟨a, rfl, _⟩ := r; rfl
  | xcp => rw [rep_xcp] at r; exact r.elim
theorem oIsN_eq (x : AV) (h : AH) : Mi.oIsN x h = .ok (.bl x.isN) h := rfl
theorem oNotN_eq (x : AV) (h : AH) : Mi.oNotN x h = .ok (.bl (!x.isN)) h := rfl
theorem nx_isN : Nx1 Mi.oIsN := fun x h e h' z => by rw [oIsN_eq] at z; cases z
theorem nx_notN : Nx1 Mi.oNotN := fun x h e h' z => by rw [oNotN_eq] at z; cases z

/-! ### places -/
theorem atN_eq (n : Nat) (i : Int) : Mi.atN n i = ixN n i := rfl
theorem atI_eq {α : Type} (xs : List α) (i : Int) : Mi.atI xs i = L2.atI xs i := rfl
theorem RepL.atI {K : Fg} {c : Cn} {xs : List AV} {vs : List V} {i : Int} {x : AV} (r : RepL K c xs vs) (e : Mi.atI xs i = some x) : ∃ v, L2.atI vs i = some v ∧ Rep K c x v := by
  rw [atI_eq] at e
  unfold L2.atI at e ⊢
  rw [r.length] at e
  cases q : ixN vs.length i with
  | none => rw [q] at e; cases e
  | some j =>
    rw [q] at e
    exact r.get e
theorem sIx_eq (n d : Nat) (o : Option Int) : Mi.sIx n d o = HT.sIx n d o := by cases o <;> rfl
theorem RepL.cut {K : Fg} {c : Cn} {xs : List AV} {vs : List V} (r : RepL K c xs vs) (lo hi : Option Int) : RepL K c (Mi.cut xs lo hi) (cutV vs lo hi) := by
  unfold Mi.cut cutV
  rw [sIx_eq, sIx_eq, r.length]
  exact (r.drop _).take _
/-- dicts -/
theorem akey_v {K : Fg} {c : Cn} {x : AV} {v : V} {k : Key} (r : Rep K c x v) (e : akey x = some k) : v = kV k := by
  cases x with
  | int i => cases e; rw [rep_int] at r; exact r
  | str s => cases e; rw [rep_str] at r; exact r
  | _ => cases e
theorem akeys_v {K : Fg} {c : Cn} : ∀ {xs : List AV} {vs : List V} {ks : List Key}, RepL K c xs vs → akeys xs = some ks → vs = ks.map kV
  | [], _, _, r, e => by cases e; rw [repL_nil] at r; exact r
  | x :: xs, _, ks, r, e => by
    rw [repL_cons] at r
    obtain ⟨v, w, rfl, h1, h2⟩ := r
    unfold akeys at e
    split at e
    · rename_i k ks' e1 e2
      cases e
      rw [akey_v h1 e1, akeys_v h2 e2]
      rfl
    · cases e
theorem akey_eqv {a b : AV} {k l : Key} (h : akey a = some k) (g : akey b = some l) : a.eqv b = decide (k = l) := by
  cases a with
  | int i =>
    cases h
    cases b with
    | int j => cases g; simp only [AV.eqv]; rw [key_ll]
    | str t => cases g; simp only [AV.eqv]; rw [key_lr]
    | _ => cases g
  | str s =>
    cases h
    cases b with
    | int j => cases g; simp only [AV.eqv]; rw [key_rl]
    | str t =>
      cases g
      simp only [AV.eqv]
      rw [key_rr, ← str_beq, Bool.beq_eq_decide_eq]
    | _ => cases g
  | _ => cases h
theorem akeys_eqv : ∀ {a b : List AV} {k l : List Key}, akeys a = some k → akeys b = some l → AV.eqvs a b = decide (k = l)
  | [], [], _, _, h, g => by cases h; cases g; simp [AV.eqvs]
  | [], y :: b, _, _, h, g => by
    cases h
    unfold akeys at g
    split at g
    · cases g; simp [AV.eqvs]
    · cases g
  | x :: a, [], _, _, h, g => by
    cases g
    unfold akeys at h
    split at h
    · cases h; simp [AV.eqvs]
    · cases h
  | x :: a, y :: b, _, _, h, g => by
    unfold akeys at h g
    split at h
    · rename_i k1 k2 e1 e2
      split at g
      · rename_i l1 l2 f1 f2
        cases h
        cases g
        simp only [AV.eqvs]
        rw [akey_eqv e1 f1, akeys_eqv e2 f2, Bool.eq_iff_iff]
        simp
      · cases g
    · cases h
theorem akeyT_eqv {a b : AV} {k l : List Key} (h : akeyT a = some k) (g : akeyT b = some l) : a.eqv b = decide (k = l) := by
  cases a with
  | tup xs =>
    cases b with
    | tup ys => simp only [AV.eqv]; exact akeys_eqv h g
    | _ => cases g
  | _ => cases h
theorem akey_of {x : AV} (h : x.key1 = true) : ∃ k, akey x = some k := by
  cases x with
  | int i => exact ⟨_, rfl⟩
  | str s => exact ⟨_, rfl⟩
  | _ => cases h
theorem akeys_of : ∀ {xs : List AV}, xs.all AV.key1 = true → ∃ ks, akeys xs = some ks
  | [], _ => ⟨_, rfl⟩
  | x :: xs, h => by
    rw [List.all_cons, Bool.and_eq_true] at h
    obtain ⟨k, e⟩ := akey_of h.1
    obtain ⟨ks, e'⟩ := akeys_of h.2
    exact ⟨k :: ks, by unfold akeys; rw [e, e']⟩
theorem akeyT_of {x : AV} (h : x.keyT = true) : ∃ xs ks, x = .tup xs ∧ akeys xs = some ks := by
  cases x with
  | tup xs =>
    obtain ⟨ks, e⟩ := akeys_of (xs := xs) h
    exact ⟨xs, ks, rfl, e⟩
  | _ => cases h
section
variable {κ : Type} [DecidableEq κ] {key : AV → Option κ} {K : Fg} {c : Cn}
theorem RepKV.length : ∀ {kvs : List (AV × AV)} {ks : List (κ × V)}, RepKV key K c kvs ks → kvs.length = ks.length
  | [], _, h => by cases h; rfl
  | (a, b) :: r, _, h => by
    obtain ⟨k, v, s, rfl, _, _, h4⟩ := h
    simp [RepKV.length h4]
theorem RepKV.look (hk : ∀ {a b : AV} {k l : κ}, key a = some k → key b = some l → a.eqv b = decide (k = l)) {x : AV} {k : κ} (hx : key x = some k) : ∀ {kvs : List (AV × AV)} {ks : List (κ × V)}, RepKV key K c kvs ks →
    (Mi.look kvs x = none ∧ valV ks k = none) ∨ ∃ a v, Mi.look kvs x = some a ∧ valV ks k = some v ∧ Rep K c a v
  | [], _, h => by cases h; exact .inl ⟨rfl, rfl⟩
  | (a, b) :: r, _, h => by
    obtain ⟨k', v, s, rfl, h2, h3, h4⟩ := h
    have e : a.eqv x = decide (k' = k) := hk h2 hx
    unfold Mi.look
    by_cases q : k' = k
    · refine .inr ⟨b, v, ?_, valV_pos q, h3⟩
      rw [List.find?_cons, e, decide_eq_true q]
      rfl
    · rw [valV_neg q, List.find?_cons, e, decide_eq_false q]
      exact RepKV.look hk hx h4
theorem RepKV.any (hk : ∀ {a b : AV} {k l : κ}, key a = some k → key b = some l → a.eqv b = decide (k = l)) {x : AV} {k : κ} (hx : key x = some k) : ∀ {kvs : List (AV × AV)} {ks : List (κ × V)}, RepKV key K c kvs ks →
    (kvs.any fun kv => kv.1.eqv x) = ks.any fun kv => decide (kv.1 = k)
  | [], _, h => by cases h; rfl
  | (a, b) :: r, _, h => by
    obtain ⟨k', v, s, rfl, h2, h3, h4⟩ := h
    rw [List.any_cons, List.any_cons, RepKV.any hk hx h4, hk h2 hx]
theorem RepKV.repl (hk : ∀ {a b : AV} {k l : κ}, key a = some k → key b = some l → a.eqv b = decide (k = l)) {x y : AV} {k : κ} {v : V} (hx : key x = some k) (ry : Rep K c y v) : ∀ {kvs : List (AV × AV)} {ks : List (κ × V)}, RepKV key K c kvs ks →
    RepKV key K c (kvs.map fun kv => if kv.1.eqv x then (kv.1, y) else kv) (ks.map fun kv => if kv.1 = k then (kv.1, v) else kv)
  | [], _, h => by cases h; rfl
  | (a, b) :: r, _, h => by
    obtain ⟨k', w, s, rfl, h2, h3, h4⟩ := h
    have ih := RepKV.repl hk hx ry h4
    rw [List.map_cons, List.map_cons]
    have e : a.eqv x = decide (k' = k) := hk h2 hx
    by_cases q : k' = k
    · simp only [e, q, decide_true, if_true]
      exact ⟨k', v, _, by rw [q], h2, ry, ih⟩
    · simp only [e, q, decide_false, if_false]
      exact ⟨k', w, _, rfl, h2, h3, ih⟩
theorem RepKV.snoc {x y : AV} {k : κ} {v : V} (hx : key x = some k) (ry : Rep K c y v) : ∀ {kvs : List (AV × AV)} {ks : List (κ × V)}, RepKV key K c kvs ks → RepKV key K c (kvs ++ [(x, y)]) (ks ++ [(k, v)])
  | [], _, h => by cases h; exact ⟨k, v, [], rfl, hx, ry, rfl⟩
  | (a, b) :: r, _, h => by
    obtain ⟨k', w, s, rfl, h2, h3, h4⟩ := h
    exact ⟨k', w, _, rfl, h2, h3, RepKV.snoc hx ry h4⟩
theorem RepKV.put (hk : ∀ {a b : AV} {k l : κ}, key a = some k → key b = some l → a.eqv b = decide (k = l)) {x y : AV} {k : κ} {v : V} (hx : key x = some k) (ry : Rep K c y v) {kvs : List (AV × AV)} {ks : List (κ × V)} (h : RepKV key K c kvs ks) :
    RepKV key K c (Mi.put kvs x y) (putK ks k v) := by
  unfold Mi.put putK
  rw [RepKV.any hk hx h]
  split
  · exact h.repl hk hx ry
  · exact h.snoc hx ry
end
theorem dic_at {K : Fg} {c : Cn} {h : AH} {n : Nat} {t : Bool} {kvs : List (AV × AV)} {p : Addr} (rh : RepH K c h) (hp : c.ρ[n]? = some p) (hn : h[n]? = some (.dic t kvs)) : CellAt K c p (.dic t kvs) := rh.cell n p _ hp hn
/-- what the dict holds at a key -/
theorem dget_at {K : Fg} {c : Cn} {h : AH} {n : Nat} {t : Bool} {kvs : List (AV × AV)} {p : Addr} {x : AV} {y : V} (rh : RepH K c h) (hp : c.ρ[n]? = some p) (hn : h[n]? = some (.dic t kvs)) (hk : Mi.keyFor t x = true) (r : Rep K c x y) :
    (Mi.look kvs x = none ∧ DGet c.H p y none) ∨ ∃ a v, Mi.look kvs x = some a ∧ DGet c.H p y (some v) ∧ Rep K c a v := by
  have z := dic_at rh hp hn
  cases t with
  | false =>
    obtain ⟨ks, e, kv⟩ := z
    obtain ⟨k, ek⟩ := akey_of (x := x) hk
    rw [akey_v r ek]
    rcases kv.look akey_eqv ek with ⟨h1, h2⟩ | ⟨a, v, h1, h2, h3⟩
    · exact .inl ⟨h1, by rw [← h2]; exact DGet.k e⟩
    · exact .inr ⟨a, v, h1, by rw [← h2]; exact DGet.k e, h3⟩
  | true =>
    obtain ⟨ks, e, kv⟩ := z
    obtain ⟨xs, k, rfl, ek⟩ := akeyT_of (x := x) hk
    rw [rep_tup] at r
    obtain ⟨b, vs, rfl, hb, hv⟩ := r
    rw [akeys_v hv ek] at hb
    rcases kv.look akeyT_eqv (x := .tup xs) (k := k) ek with ⟨h1, h2⟩ | ⟨a, v, h1, h2, h3⟩
    · exact .inl ⟨h1, by rw [← h2]; exact DGet.t e hb⟩
    · exact .inr ⟨a, v, h1, by rw [← h2]; exact DGet.t e hb, h3⟩
section
variable {X : Cx}
theorem ix_dict (hu : X.A.units + 1 < cLine) : IxR X (fun x y H Q => ∃ a v, x = .ref a ∧ DGet H a y (some v) ∧ Q v H) := by
  intro value slice pins s σ H x y v u Q I rx ry h hs
  obtain ⟨a, w, rfl, g, q⟩ := h
  cases rx
  exact tail_any (dict_typeIs I g) PySem.F.slot_dict_getitem.lookup (d_getItem hu I g ry fun w' s' I' rw' => ⟨w, H, I', rw', q⟩) hs
theorem ix_M (hu : X.A.units + 1 < cLine) : IxR X (oM2 X.K Mi.oIx) := by
  intro value slice pins s σ H x y v u Q I rx ry ⟨c, h, ax, ay, e, rh, r1, r2, q⟩ hs
  subst e
  have seq : ∀ (xs : List AV) (vs : List V) (p : Addr) (i : Int), x = .ref p → (SqL X.K c.H p vs ∨ SqT X.K c.H p vs) → RepL X.K c xs vs → ay = .int i → PV X.K c Q (match Mi.atI xs i with | some v => .ok v h | none => .no) →
      wpAny (model X.prog X.w) X.A (subscriptTail value slice v u) (EP X pins σ Q) X.xe s := by
    intro xs vs p i ex hsq hl ei q0
    subst ex ei
    rw [rep_int] at r2
    subst r2
    split at q0
    · rename_i w e
      obtain ⟨z, h1, h2⟩ := hl.atI e
      rcases hsq with hsq | hsq
      · exact ix_list value slice pins s σ _ _ _ v u Q I rx ry ⟨p, vs, i, z, rfl, rfl, hsq, h1, q0.here rh h2⟩ hs
      · exact ix_tup value slice pins s σ _ _ _ v u Q I rx ry ⟨p, vs, i, z, rfl, rfl, hsq, h1, q0.here rh h2⟩ hs
    · exact q0.elim
  cases ax with
  | str t =>
    cases ay with
    | int i =>
      rw [rep_str] at r1
      rw [rep_int] at r2
      subst r1 r2
      unfold Mi.oIx at q
      dsimp only at q
      split at q
      · rename_i hl
        split at q
        · rename_i d e
          exact ix_str value slice pins s σ _ _ _ v u Q I rx ry ⟨_, i, d, rfl, rfl, by rw [str_len, line_eq]; exact hl, by rw [← atI_eq]; simpa using e, q.here rh (by rw [rep_str])⟩ hs
        · exact q.elim
      · exact q.elim
    | _ => exact q.elim
  | tup xs =>
    cases ay with
    | int i =>
      rw [rep_tup] at r1
      obtain ⟨p, vs, e1, e2, e3⟩ := r1
      exact seq xs vs p i e1 (.inr (.inl (.inl e2))) e3 rfl q
    | _ => exact q.elim
  | lst xs =>
    cases ay with
    | int i =>
      rw [rep_lst] at r1
      obtain ⟨p, vs, e1, e2, e3⟩ := r1
      exact seq xs vs p i e1 (.inl e2.sq) e3 rfl q
    | _ => exact q.elim
  | scr t xs =>
    cases ay with
    | int i =>
      obtain ⟨p, vs, e1, e2, e3⟩ := seq_at rh r1 (xs := xs) rfl
      exact seq xs vs p i e1 e2 e3 rfl q
    | _ => exact q.elim
  | cel n =>
    unfold Mi.oIx at q
    dsimp only at q
    rw [rep_cel] at r1
    obtain ⟨p, e1, e2⟩ := r1
    split at q
    · rename_i xs hn
      obtain ⟨vs, e3, e4⟩ := cell_lst rh e2 hn
      split at q
      · exact seq xs vs p _ e1 (.inl (.inl (.inl e3))) e4 rfl q
      · exact q.elim
    · rename_i t kvs hn
      split at q
      · rename_i hk
        rcases dget_at rh e2 hn hk r2 with ⟨h1, h2⟩ | ⟨a, w, h1, h2, h3⟩
        · rw [h1] at q
          exact q.elim
        · rw [h1] at q
          exact ix_dict hu value slice pins s σ _ _ _ v u Q I rx ry ⟨p, w, e1, h2, q.here rh h3⟩ hs
      · exact q.elim
    · exact q.elim
  | non => exact q.elim
  | bl b => exact q.elim
  | int i => exact q.elim
  | xcp => exact q.elim
theorem nx_ix : Nx2 Mi.oIx := by
  intro x y h e h' z
  unfold Mi.oIx at z
  repeat (first | split at z | cases z)
/-! ### slices, in -/
def oM3 (K : Fg) (f : AV → Option Int → Option Int → Mi.M AV) : V → Option Int → Option Int → Hp → VK → Prop := fun x lo hi H Q => ∃ (c : Cn) (h : AH) (ax : AV), c.H = H ∧ RepH K c h ∧ Rep K c ax x ∧ PV K c Q (f ax lo hi h)
theorem cut_whole {α : Type} {xs : List α} {lo hi : Option Int} (h1 : Mi.sIx xs.length 0 lo = 0) (h2 : Mi.sIx xs.length xs.length hi = xs.length) : Mi.cut xs lo hi = xs := by
  unfold Mi.cut
  rw [h1, h2]
  simp
theorem cutS_cut (s : List Nat) (lo hi : Option Int) : cutS ⟨s.toArray⟩ lo hi = ⟨(Mi.cut s lo hi).toArray⟩ := by
  unfold cutS Mi.cut
  rw [sIx_eq, sIx_eq, str_len]
theorem sl_M : SlR X (oM3 X.K Mi.oSl) := by
  intro pins s σ H x v vl vu lo hi sl Q I rx hs pl pu ⟨c, h, ax, e, rh, r1, q⟩
  subst e
  unfold Mi.oSl at q
  split at q
  · rw [rep_str] at r1
    subst r1
    split at q
    · rename_i hl
      refine sl_str pins s σ _ _ v vl vu lo hi sl Q I rx hs pl pu ⟨_, rfl, by rw [str_len, line_eq]; exact hl, ?_⟩
      rw [cutS_cut]
      exact q.here rh (by rw [rep_str])
    · exact q.elim
  · rename_i xs
    rw [rep_tup] at r1
    obtain ⟨p, vs, rfl, e2, e3⟩ := r1
    refine sl_tupA pins s σ _ _ v vl vu lo hi sl Q I rx hs pl pu ⟨p, vs, rfl, .inl (.inl e2), fun hw => ?_, fun hw p hp => ?_⟩
    · rw [← sIx_eq, ← sIx_eq, ← e3.length] at hw
      rw [cut_whole hw.1 hw.2] at q
      exact q.here rh (by rw [rep_tup]; exact ⟨p, vs, rfl, e2, e3⟩)
    · exact q.tup rh (e3.cut lo hi) hp
  · rename_i xs
    rw [rep_scr] at r1
    obtain ⟨p, vs, rfl, e2, e3⟩ := r1
    exact sl_list pins s σ _ _ v vl vu lo hi sl Q I rx hs pl pu ⟨p, vs, rfl, e2.sq, fun p hp => q.lst rh (e3.cut lo hi) hp⟩
  · split at q
    · rename_i xs e
      obtain ⟨p, vs, rfl, e2, e3⟩ := lst_at rh r1 e
      exact sl_list pins s σ _ _ v vl vu lo hi sl Q I rx hs pl pu ⟨p, vs, rfl, .inl (.inl e2), fun p hp => q.lst rh (e3.cut lo hi) hp⟩
    · exact q.elim
theorem rep_flat {K : Fg} {c : Cn} {x : AV} {v : V} (r : Rep K c x v) (h : x.flat = true) : flatV v = true := by
  cases x with
  | non => rw [rep_non] at r; subst r; rfl
  | bl b => rw [rep_bl] at r; subst r; rfl
  | int i => rw [rep_int] at r; subst r; rfl
  | str s => rw [rep_str] at r; subst r; rfl
  | _ => cases h
theorem rep_flats {K : Fg} {c : Cn} : ∀ {xs : List AV} {vs : List V}, RepL K c xs vs → xs.all AV.flat = true → vs.all flatV = true
  | [], _, r, _ => by rw [repL_nil] at r; subst r; rfl
  | x :: xs, _, r, h => by
    rw [repL_cons] at r
    obtain ⟨v, w, rfl, h1, h2⟩ := r
    rw [List.all_cons, Bool.and_eq_true] at h ⊢
    exact ⟨rep_flat h1 h.1, rep_flats h2 h.2⟩
theorem rep_eqV {K : Fg} {c : Cn} {x y : AV} {v w : V} (r : Rep K c x v) (g : Rep K c y w) (h : x.flat = true) (h' : y.flat = true) : eqV v w = x.eqv y := by
  cases x with
  | non => rw [rep_non] at r; subst r; cases y with
    | non => rw [rep_non] at g; subst g; rfl
    | bl b => rw [rep_bl] at g; subst g; rfl
    | int i => rw [rep_int] at g; subst g; rfl
    | str s => rw [rep_str] at g; subst g; rfl
    | _ => cases h'
  | bl b => rw [rep_bl] at r; subst r; cases y with
    | non => rw [rep_non] at g; subst g; rfl
    | bl b => rw [rep_bl] at g; subst g; rfl
    | int i => rw [rep_int] at g; subst g; cases b <;> simp [eqV, AV.eqv, Mi.b2i]
    | str s => rw [rep_str] at g; subst g; rfl
    | _ => cases h'
  | int i => rw [rep_int] at r; subst r; cases y with
    | non => rw [rep_non] at g; subst g; rfl
    | bl b => rw [rep_bl] at g; subst g; cases b <;> simp [eqV, AV.eqv, Mi.b2i]
    | int i => rw [rep_int] at g; subst g; rfl
    | str s => rw [rep_str] at g; subst g; rfl
    | _ => cases h'
  | str s => rw [rep_str] at r; subst r; cases y with
    | non => rw [rep_non] at g; subst g; rfl
    | bl b => rw [rep_bl] at g; subst g; rfl
    | int i => rw [rep_int] at g; subst g; rfl
    | str t => rw [rep_str] at g; subst g; simp only [eqV, AV.eqv]; exact str_beq s t
    | _ => cases h'
  | _ => cases h
theorem rep_inV {K : Fg} {c : Cn} {x : AV} {v : V} (r : Rep K c x v) (h : x.flat = true) : ∀ {ys : List AV} {ws : List V}, RepL K c ys ws → ys.all AV.flat = true → inV v ws = ys.any fun y => y.eqv x
  | [], _, g, _ => by rw [repL_nil] at g; subst g; rfl
  | y :: ys, _, g, h' => by
    rw [repL_cons] at g
    obtain ⟨w, ws, rfl, h1, h2⟩ := g
    rw [List.all_cons, Bool.and_eq_true] at h'
    show (eqV w v || inV v ws) = (y.eqv x || ys.any fun y => y.eqv x)
    rw [rep_eqV h1 r h'.1 h, rep_inV r h h2 h'.2]
/-- x in y, in terms of the answer -/
theorem in_cases {K : Fg} {c : Cn} {h : AH} {Q : VK} {ax ay : AV} {x y : V} (rh : RepH K c h) (r1 : Rep K c ax x) (r2 : Rep K c ay y) (q : PV K c Q (Mi.oIn ax ay h)) :
    ∃ b, Mi.oIn ax ay h = .ok (.bl b) h ∧ ((∃ (d : Nat) (z : Str), x = .str ⟨#[d]⟩ ∧ y = .str z ∧ b = decide (d ∈ z.cps.toList)) ∨
      (∃ p xs, y = .ref p ∧ (SqL K c.H p xs ∨ SqT K c.H p xs) ∧ flatV x = true ∧ xs.all flatV = true ∧ b = inV x xs) ∨ ∃ a o, y = .ref a ∧ DGet c.H a x o ∧ b = o.isSome) := by
  unfold Mi.oIn at q ⊢
  split at q
  · rename_i d t
    rw [rep_str] at r1 r2
    subst r1 r2
    exact ⟨_, rfl, .inl ⟨d, ⟨t.toArray⟩, rfl, rfl, by simp⟩⟩
  · rename_i ys
    split at q
    · rename_i hf
      rw [Bool.and_eq_true] at hf
      rw [rep_tup] at r2
      obtain ⟨p, vs, rfl, e2, e3⟩ := r2
      exact ⟨_, if_pos (by rw [Bool.and_eq_true]; exact hf), .inr (.inl ⟨p, vs, rfl, .inr (.inl (.inl e2)), rep_flat r1 hf.1, rep_flats e3 hf.2, (rep_inV r1 hf.1 e3 hf.2).symm⟩)⟩
    · exact q.elim
  · rename_i ys
    split at q
    · rename_i hf
      rw [Bool.and_eq_true] at hf
      rw [rep_lst] at r2
      obtain ⟨p, vs, rfl, e2, e3⟩ := r2
      exact ⟨_, if_pos (by rw [Bool.and_eq_true]; exact hf), .inr (.inl ⟨p, vs, rfl, .inl e2.sq, rep_flat r1 hf.1, rep_flats e3 hf.2, (rep_inV r1 hf.1 e3 hf.2).symm⟩)⟩
    · exact q.elim
  · rename_i n
    rw [rep_cel] at r2
    obtain ⟨p, rfl, e2⟩ := r2
    split at q
    · rename_i ys hn
      split at q
      · rename_i hf
        rw [Bool.and_eq_true] at hf
        obtain ⟨vs, e3, e4⟩ := cell_lst rh e2 hn
        refine ⟨_, ?_, .inr (.inl ⟨p, vs, rfl, .inl (.inl (.inl e3)), rep_flat r1 hf.1, rep_flats e4 hf.2, (rep_inV r1 hf.1 e4 hf.2).symm⟩)⟩
        rw [if_pos (by rw [Bool.and_eq_true]; exact hf)]
      · exact q.elim
    · rename_i t kvs hn
      split at q
      · rename_i hk
        rcases dget_at rh e2 hn hk r1 with ⟨h1, h2⟩ | ⟨a, w, h1, h2, h3⟩
        · refine ⟨_, if_pos hk, .inr (.inr ⟨p, none, rfl, h2, by rw [h1]; rfl⟩)⟩
        · refine ⟨_, if_pos hk, .inr (.inr ⟨p, some w, rfl, h2, by rw [h1]; rfl⟩)⟩
      · exact q.elim
    · exact q.elim
  · exact q.elim
theorem op_inM (hu : X.A.units + 1 < cLine) : OpR X (compareOp .In) (oM2 X.K Mi.oIn) := by
  intro pins s σ H x y v u Q I rx ry ⟨c, h, ax, ay, e, rh, r1, r2, q⟩
  subst e
  obtain ⟨b, e, hb⟩ := in_cases rh r1 r2 q
  rw [e] at q
  have q' : Q (.bl b) c.H := q.here rh (by rw [rep_bl])
  rcases hb with ⟨d, z, rfl, rfl, rfl⟩ | ⟨p, xs, rfl, hq, fx, fs, rfl⟩ | ⟨a, o, rfl, g, rfl⟩
  · exact op_in_sign pins s σ _ _ _ v u Q I rx ry ⟨d, z, rfl, rfl, q'⟩
  · exact op_in_seq pins s σ _ _ _ v u Q I rx ry ⟨p, xs, rfl, hq, fx, fs, q'⟩
  · cases ry
    exact d_in hu I g rx fun s3 I3 => ⟨.bl o.isSome, _, I3, rfl, q'⟩
theorem op_notInM (hu : X.A.units + 1 < cLine) : OpR X (compareOp .NotIn) (oM2 X.K Mi.oNotIn) := by
  intro pins s σ H x y v u Q I rx ry ⟨c, h, ax, ay, e, rh, r1, r2, q⟩
  subst e
  have q2 : ∃ Q2 : VK, PV X.K c Q2 (Mi.oIn ax ay h) := by
    unfold Mi.oNotIn at q
    cases z : Mi.oIn ax ay h with
    | ok a h1 => exact ⟨fun _ _ => True, fun _ _ _ _ _ _ => trivial⟩
    | ex e h1 => rw [z] at q; exact q.elim
    | no => rw [z] at q; exact q.elim
  obtain ⟨Q2, q2⟩ := q2
  obtain ⟨b, e, hb⟩ := in_cases rh r1 r2 q2
  unfold Mi.oNotIn at q
  rw [e] at q
  have q' : Q (.bl (!b)) c.H := PV.here (a := .bl (!b)) (h := h) q rh (by rw [rep_bl])
  rcases hb with ⟨d, z, rfl, rfl, rfl⟩ | ⟨p, xs, rfl, hq, fx, fs, rfl⟩ | ⟨a, o, rfl, g, rfl⟩
  · exact op_notIn_sign pins s σ _ _ _ v u Q I rx ry ⟨d, z, rfl, rfl, q'⟩
  · exact op_notIn_seq pins s σ _ _ _ v u Q I rx ry ⟨p, xs, rfl, hq, fx, fs, q'⟩
  · cases ry
    exact d_notIn hu I g rx fun s3 I3 => ⟨.bl (!o.isSome), _, I3, rfl, q'⟩
theorem nx_in : Nx2 Mi.oIn := by
  intro x y h e h' z
  unfold Mi.oIn at z
  repeat (first | split at z | cases z)
theorem nx_notIn : Nx2 Mi.oNotIn := by
  intro x y h e h' z
  unfold Mi.oNotIn at z
  cases w : Mi.oIn x y h with
  | ok a h1 =>
    rw [w, Mi.Res.bind_ok] at z
    split at z <;> cases z
  | ex e h1 => exact nx_in x y h e h1 w
  | no =>
    rw [w] at z
    cases z
end
end
end MiS

end

section
set_option maxHeartbeats 4000000
namespace MiS
open PySem PySem.Spec L2
open PyProof.Rows hiding St
open Mi (AV HC AH AX Res AS RS)

/-! ### built-ins by values -/
section
variable {X : Cx} {K : Fg} {c : Cn} {h : AH}
theorem repL_one {x : AV} {vs : List V} (r : RepL K c [x] vs) : ∃ v, vs = [v] ∧ Rep K c x v := by
  rw [repL_cons] at r
  obtain ⟨v, w, rfl, h1, h2⟩ := r
  rw [repL_nil] at h2
  subst h2
  exact ⟨v, rfl, h1⟩
theorem repL_two {x y : AV} {vs : List V} (r : RepL K c [x, y] vs) : ∃ v w, vs = [v, w] ∧ Rep K c x v ∧ Rep K c y w := by
  rw [repL_cons] at r
  obtain ⟨v, w, rfl, h1, h2⟩ := r
  obtain ⟨w', rfl, h3⟩ := repL_one h2
  exact ⟨v, w', rfl, h1, h3⟩
theorem call_lenM : CallR X (.builtin "len") (oMN X.K Mi.cLen) := by
  intro pins s σ H xs us Q I rs ⟨c, h, as, e, rh, r, q⟩
  subst e
  unfold Mi.cLen at q
  split at q
  · rename_i x
    obtain ⟨v, rfl, r1⟩ := repL_one r
    have seq : ∀ (l : List AV) (p : Addr) (vs : List V), v = .ref p → (SqL X.K c.H p vs ∨ SqT X.K c.H p vs) → RepL X.K c l vs → PV X.K c Q (.ok (.int l.length) h) → wpAny (model X.prog X.w) X.A (call (.builtin "len") us) (EP X pins σ Q) X.xe s := by
      intro l p vs e hq hl q0
      subst e
      exact call_len_seq pins s σ _ _ us Q I rs ⟨p, vs, rfl, hq, by rw [← hl.length]; exact q0.here rh (by rw [rep_int])⟩
    cases x with
    | str t =>
      rw [rep_str] at r1
      subst r1
      dsimp only at q
      split at q
      · rename_i hl
        refine call_len_str pins s σ _ _ us Q I rs ⟨_, rfl, by rw [str_len, line_eq]; exact hl, ?_⟩
        rw [str_len]
        exact q.here rh (by rw [rep_int])
      · exact q.elim
    | tup l => obtain ⟨p, vs, e1, e2, e3⟩ := seq_at rh r1 (xs := l) rfl; exact seq l p vs e1 e2 e3 q
    | lst l => obtain ⟨p, vs, e1, e2, e3⟩ := seq_at rh r1 (xs := l) rfl; exact seq l p vs e1 e2 e3 q
    | scr t l => obtain ⟨p, vs, e1, e2, e3⟩ := seq_at rh r1 (xs := l) rfl; exact seq l p vs e1 e2 e3 q
    | cel n =>
      dsimp only at q
      rw [rep_cel] at r1
      obtain ⟨p, rfl, e2⟩ := r1
      split at q
      · rename_i l hn
        obtain ⟨vs, e3, e4⟩ := cell_lst rh e2 hn
        exact seq l p vs rfl (.inl (.inl (.inl e3))) e4 q
      · rename_i kvs hn
        obtain ⟨ks, e3, e4⟩ := dic_at rh e2 hn
        cases rs with
        | cons rx rr =>
          cases rr
          cases rx
          exact d_len I (.inl e3) fun t s' I' => ⟨.int kvs.length, _, I', ⟨t, by rw [e4.length]⟩, q.here rh (by rw [rep_int])⟩
      · exact q.elim
    | non => exact q.elim
    | bl b => exact q.elim
    | int i => exact q.elim
    | xcp => exact q.elim
  · exact q.elim
theorem nx_len : NxN Mi.cLen := by
  intro xs h e h' z
  unfold Mi.cLen at z
  repeat (first | split at z | cases z)
theorem call_absM : CallR X (.builtin "abs") (oMN X.K Mi.cAbs) := by
  intro pins s σ H xs us Q I rs ⟨c, h, as, e, rh, r, q⟩
  subst e
  unfold Mi.cAbs at q
  split at q
  · obtain ⟨v, rfl, r1⟩ := repL_one r
    rw [rep_int] at r1
    subst r1
    exact call_abs pins s σ _ _ us Q I rs ⟨_, rfl, q.here rh (by rw [rep_int])⟩
  · exact q.elim
theorem nx_abs : NxN Mi.cAbs := by
  intro xs h e h' z
  unfold Mi.cAbs at z
  repeat (first | split at z | cases z)
theorem call_max2M (hc : X.calm = true) : CallR X (.builtin "max") (oMN X.K Mi.cMax2) := by
  intro pins s σ H xs us Q I rs ⟨c, h, as, e, rh, r, q⟩
  subst e
  unfold Mi.cMax2 at q
  split at q
  · obtain ⟨v, w, rfl, r1, r2⟩ := repL_two r
    rw [rep_int] at r1 r2
    subst r1 r2
    exact call_max2 hc pins s σ _ _ us Q I rs ⟨_, _, rfl, q.here rh (by rw [rep_int])⟩
  · exact q.elim
theorem nx_max2 : NxN Mi.cMax2 := by
  intro xs h e h' z
  unfold Mi.cMax2 at z
  repeat (first | split at z | cases z)
theorem call_min2M (hc : X.calm = true) : CallR X (.builtin "min") (oMN X.K Mi.cMin2) := by
  intro pins s σ H xs us Q I rs ⟨c, h, as, e, rh, r, q⟩
  subst e
  unfold Mi.cMin2 at q
  split at q
  · obtain ⟨v, w, rfl, r1, r2⟩ := repL_two r
    rw [rep_int] at r1 r2
    subst r1 r2
    exact call_min2 hc pins s σ _ _ us Q I rs ⟨_, _, rfl, q.here rh (by rw [rep_int])⟩
  · exact q.elim
theorem nx_min2 : NxN Mi.cMin2 := by
  intro xs h e h' z
  unfold Mi.cMin2 at z
  repeat (first | split at z | cases z)
theorem call_intM : CallR X (.type "int") (oMN X.K Mi.cInt) := by
  intro pins s σ H xs us Q I rs ⟨c, h, as, e, rh, r, q⟩
  subst e
  unfold Mi.cInt at q
  split at q
  · obtain ⟨v, rfl, r1⟩ := repL_one r
    rw [rep_int] at r1
    subst r1
    exact call_int1 pins s σ _ _ us Q I rs (.inl ⟨_, rfl, q.here rh (by rw [rep_int])⟩)
  · obtain ⟨v, rfl, r1⟩ := repL_one r
    rw [rep_bl] at r1
    subst r1
    exact call_int1 pins s σ _ _ us Q I rs (.inr ⟨_, rfl, q.here rh (by rw [rep_int]; rfl)⟩)
  · exact q.elim
theorem nx_int1 : NxN Mi.cInt := by
  intro xs h e h' z
  unfold Mi.cInt at z
  repeat (first | split at z | cases z)
theorem str_intL (i : Int) : (Str.ofString (toString i)) = ⟨(Mi.intL i).toArray⟩ := by
  apply TL.ext_tl
  rw [TL.tl_ofString]
  show (toString i).toList.map Char.toNat = Mi.intL i
  unfold Mi.intL
  cases i with
  | ofNat n =>
    rw [if_neg (show ¬ Int.ofNat n < 0 from Int.not_lt.mpr (Int.natCast_nonneg n))]
    have e : toString (Int.ofNat n) = toString n := rfl
    rw [e]
    show (Nat.repr n).toList.map Char.toNat = Mi.numL n
    unfold Nat.repr Mi.numL
    rw [String.toList_ofList]
  | negSucc n =>
    rw [if_pos (Int.negSucc_lt_zero n)]
    have e : toString (Int.negSucc n) = "-" ++ toString (n + 1) := rfl
    rw [e, String.toList_append, List.map_append]
    show 45 :: (Nat.repr (n + 1)).toList.map Char.toNat = 45 :: Mi.numL (n + 1)
    unfold Nat.repr Mi.numL
    rw [String.toList_ofList]
theorem call_strM : CallR X (.type "str") (oMN X.K Mi.cStr) := by
  intro pins s σ H xs us Q I rs ⟨c, h, as, e, rh, r, q⟩
  subst e
  unfold Mi.cStr at q
  split at q
  · rename_i i
    obtain ⟨v, rfl, r1⟩ := repL_one r
    rw [rep_int] at r1
    subst r1
    split at q
    · rename_i hl
      refine call_str_int pins s σ _ _ us Q I rs ⟨_, rfl, hl, ?_⟩
      have e := str_intL i
      rw [e]
      exact q.here rh (by rw [rep_str])
    · exact q.elim
  · exact q.elim
theorem nx_str : NxN Mi.cStr := by
  intro xs h e h' z
  unfold Mi.cStr at z
  repeat (first | split at z | cases z)
theorem call_listM : CallR X (.type "list") (oMN X.K Mi.cList) := by
  intro pins s σ H xs us Q I rs ⟨c, h, as, e, rh, r, q⟩
  subst e
  unfold Mi.cList at q
  split at q
  · obtain ⟨v, rfl, r1⟩ := repL_one r
    split at q
    · rename_i l e
      obtain ⟨p, vs, rfl, e2, e3⟩ := seq_at rh r1 e
      exact call_list_of pins s σ _ _ us Q I rs ⟨p, vs, rfl, e2, fun p hp => q.lst rh e3 hp⟩
    · exact q.elim
  · exact q.elim
theorem nx_list : NxN Mi.cList := by
  intro xs h e h' z
  unfold Mi.cList at z
  repeat (first | split at z | cases z)
theorem call_listC : CallR X (.type "list") (oMN X.K Mi.cListC) := by
  intro pins s σ H xs us Q I rs ⟨c, h, as, e, rh, r, q⟩
  subst e
  unfold Mi.cListC at q
  split at q
  · obtain ⟨v, rfl, r1⟩ := repL_one r
    split at q
    · rename_i l e
      obtain ⟨p, vs, rfl, e2, e3⟩ := seq_at rh r1 e
      exact call_list_of pins s σ _ _ us Q I rs ⟨p, vs, rfl, e2, fun p hp => q.cell rh e3 hp⟩
    · exact q.elim
  · exact q.elim
theorem nx_listC : NxN Mi.cListC := by
  intro xs h e h' z
  unfold Mi.cListC at z
  repeat (first | split at z | cases z)
theorem call_tupleM : CallR X (.type "tuple") (oMN X.K Mi.cTuple) := by
  intro pins s σ H xs us Q I rs ⟨c, h, as, e, rh, r, q⟩
  subst e
  unfold Mi.cTuple at q
  split at q
  · rename_i x
    obtain ⟨v, rfl, r1⟩ := repL_one r
    split at q
    · rename_i l
      rw [rep_tup] at r1
      obtain ⟨p, vs, rfl, e2, e3⟩ := r1
      exact call_tuple_of pins s σ _ _ us Q I rs ⟨p, vs, rfl, .inr ⟨.inl (.inl e2), q.here rh (by rw [rep_tup]; exact ⟨p, vs, rfl, e2, e3⟩)⟩⟩
    · rename_i l
      rw [rep_scr] at r1
      obtain ⟨p, vs, rfl, e2, e3⟩ := r1
      exact call_tuple_of pins s σ _ _ us Q I rs ⟨p, vs, rfl, .inl ⟨e2.sq, fun p hp => q.tup rh e3 hp⟩⟩
    · split at q
      · rename_i l e
        obtain ⟨p, vs, rfl, e2, e3⟩ := lst_at rh r1 e
        exact call_tuple_of pins s σ _ _ us Q I rs ⟨p, vs, rfl, .inl ⟨.inl (.inl e2), fun p hp => q.tup rh e3 hp⟩⟩
      · exact q.elim
  · exact q.elim
theorem nx_tuple : NxN Mi.cTuple := by
  intro xs h e h' z
  unfold Mi.cTuple at z
  repeat (first | split at z | cases z)
/-! isinstance of a built-in type -/
theorem ty_of {x : AV} {v : V} (rh : RepH K c h) (r : Rep K c x v) {t : String} {b : Bool} (e : Mi.isTy t x h = some b) (ht : t = "int" ∨ t = "bool" ∨ t = "str" ∨ t = "tuple" ∨ t = "list" ∨ t = "dict") :
    ∃ ty, TyX K c.H v ty ∧ PySem.W.kitOne K ty (.type t) = some b := by
  have go : ∀ (n : String) (b' : Bool), n = "NoneType" ∨ n = "bool" ∨ n = "int" ∨ n = "str" ∨ n = "tuple" ∨ n = "list" ∨ n = "dict" → b' = ((t == n) || (t == "int" && n == "bool")) → PySem.W.kitOne K (.type n) (.type t) = some b' := by
    intro n b' hn eb
    refine kit_ty ?_
    subst eb
    rcases ht with rfl | rfl | rfl | rfl | rfl | rfl <;> rcases hn with rfl | rfl | rfl | rfl | rfl | rfl | rfl <;> decide +kernel
  cases x with
  | non =>
    rw [rep_non] at r
    subst r
    cases e
    exact ⟨_, .base .non, go "NoneType" false (by simp) (by rcases ht with rfl | rfl | rfl | rfl | rfl | rfl <;> decide)⟩
  | bl b' =>
    rw [rep_bl] at r
    subst r
    cases e
    exact ⟨_, .base (.bl b'), go "bool" _ (by simp) (by rcases ht with rfl | rfl | rfl | rfl | rfl | rfl <;> decide)⟩
  | int i =>
    rw [rep_int] at r
    subst r
    cases e
    exact ⟨_, .base (.int i), go "int" _ (by simp) (by rcases ht with rfl | rfl | rfl | rfl | rfl | rfl <;> decide)⟩
  | str s =>
    rw [rep_str] at r
    subst r
    cases e
    exact ⟨_, .base (.str _), go "str" _ (by simp) (by rcases ht with rfl | rfl | rfl | rfl | rfl | rfl <;> decide)⟩
  | tup xs =>
    rw [rep_tup] at r
    obtain ⟨p, vs, rfl, e2, _⟩ := r
    cases e
    exact ⟨_, .base (.tup e2), go "tuple" _ (by simp) (by rcases ht with rfl | rfl | rfl | rfl | rfl | rfl <;> decide)⟩
  | lst xs =>
    rw [rep_lst] at r
    obtain ⟨p, vs, rfl, e2, _⟩ := r
    cases e
    exact ⟨_, .base (.lst e2.1), go "list" _ (by simp) (by rcases ht with rfl | rfl | rfl | rfl | rfl | rfl <;> decide)⟩
  | scr t xs => cases e
  | xcp => cases e
  | cel n =>
    rw [rep_cel] at r
    obtain ⟨p, rfl, e2⟩ := r
    have e : (match h[n]? with | some (.lst _) => some (t == "list") | some (.dic _ _) => some (t == "dict") | none => none) = some b := e
    split at e
    · rename_i l hn
      obtain ⟨vs, e3, _⟩ := cell_lst rh e2 hn
      cases e
      exact ⟨_, .base (.lst e3), go "list" _ (by simp) (by rcases ht with rfl | rfl | rfl | rfl | rfl | rfl <;> decide)⟩
    · rename_i t' kvs hn
      have z := dic_at rh e2 hn
      cases e
      cases t' with
      | false =>
        obtain ⟨ks, e3, _⟩ := z
        exact ⟨_, .base (.dK e3), go "dict" _ (by simp) (by rcases ht with rfl | rfl | rfl | rfl | rfl | rfl <;> decide)⟩
      | true =>
        obtain ⟨ks, e3, _⟩ := z
        exact ⟨_, .base (.dT e3), go "dict" _ (by simp) (by rcases ht with rfl | rfl | rfl | rfl | rfl | rfl <;> decide)⟩
    · cases e
theorem call_isiM : CallR X (.builtin "isinstance") (fun xs H Q => ∃ (x : V) (t : String), xs = [x, .ty t] ∧ (t = "int" ∨ t = "bool" ∨ t = "str" ∨ t = "tuple" ∨ t = "list" ∨ t = "dict") ∧ oM1 X.K (Mi.oIsTy t) x H Q) := by
  intro pins s σ H xs us Q I rs ⟨x, t, e1, ht, c, h, ax, e, rh, r, q⟩
  subst e1 e
  unfold Mi.oIsTy at q
  split at q
  · rename_i b e
    obtain ⟨ty, h1, h2⟩ := ty_of rh r e ht
    exact call_isi pins s σ _ _ us Q I rs ⟨x, .ty t, ty, .type t, b, rfl, .ty t, h1, h2, q.here rh (by rw [rep_bl])⟩
  · exact q.elim
theorem nx_isTy (t : String) : Nx1 (Mi.oIsTy t) := by
  intro x h e h' z
  unfold Mi.oIsTy at z
  repeat (first | split at z | cases z)

/-! ### methods -/
theorem len_sum {s : List Nat} : ∀ (l : List (List Nat)), ((l.map fun t => (⟨t.toArray⟩ : Str)).map (·.length)).sum + (l.map fun t => (⟨t.toArray⟩ : Str)).length * (⟨s.toArray⟩ : Str).length = Mi.lenSum s l
  | [] => by simp [Mi.lenSum]
  | x :: r => by
    have ih := len_sum (s := s) r
    simp only [List.map_cons, List.sum_cons, List.length_cons, Mi.lenSum, str_len] at ih ⊢
    rw [Nat.add_mul]
    omega
theorem strs_rep : ∀ {xs : List AV} {vs : List V} {l : List (List Nat)}, RepL K c xs vs → Mi.strsOf xs = some l → vs = (l.map fun t => (⟨t.toArray⟩ : Str)).map V.str
  | [], _, _, r, e => by cases e; rw [repL_nil] at r; exact r
  | x :: xs, _, l, r, e => by
    rw [repL_cons] at r
    obtain ⟨v, w, rfl, h1, h2⟩ := r
    cases x with
    | str t =>
      unfold Mi.strsOf at e
      obtain ⟨l', e1, e2⟩ := Option.map_eq_some_iff.mp e
      subst e2
      rw [rep_str] at h1
      subst h1
      rw [strs_rep h2 e1]
      rfl
    | _ => cases e
theorem joinL_eq (S : List Nat) : ∀ l : List (List Nat), Mi.joinL S l = TL.joinL S l
  | [] => rfl
  | [x] => rfl
  | x :: y :: r => by
    unfold Mi.joinL TL.joinL
    rw [joinL_eq S (y :: r), List.append_assoc]
theorem join_strs (s : List Nat) (l : List (List Nat)) : Txt.join ⟨s.toArray⟩ (l.map fun t => (⟨t.toArray⟩ : Str)) = ⟨(Mi.joinL s l).toArray⟩ := by
  apply TL.ext_tl
  rw [TL.join_eq, TL.tl_join, List.map_map]
  rw [show (TL.tl ∘ fun t : List Nat => (⟨t.toArray⟩ : Str)) = id from rfl, List.map_id]
  show TL.joinL s l = Mi.joinL s l
  rw [joinL_eq]
/-- a method by values: receiver, one argument; receiver alone -/
def oMt1 (K : Fg) (f : AV → AV → Mi.M AV) : V → List V → Hp → VK → Prop := fun x xs H Q => ∃ y, xs = [y] ∧ oM2 K f x y H Q
def oMt0 (K : Fg) (f : AV → Mi.M AV) : V → List V → Hp → VK → Prop := fun x xs H Q => xs = [] ∧ oM1 K f x H Q
theorem mt_joinM : MtR X "str.join" (oMt1 X.K Mi.mJoin) := by
  intro pins s σ H x xs v us Q I rx rs ⟨y, e0, c, h, ax, ay, e, rh, r1, r2, q⟩
  subst e0 e
  unfold Mi.mJoin at q
  split at q
  · rename_i t ys e1
    split at q
    · rename_i l e2
      split at q
      · rename_i hl
        rw [rep_str] at r1
        subst r1
        obtain ⟨p, vs, rfl, h2, h3⟩ := seq_at rh r2 e1
        rw [strs_rep h3 e2] at h2
        refine mt_join pins s σ _ _ _ v us Q I rx rs ⟨_, p, _, rfl, rfl, h2, by rw [len_sum]; exact hl, ?_⟩
        rw [join_strs]
        exact q.here rh (by rw [rep_str])
      · exact q.elim
    · exact q.elim
  · exact q.elim
theorem nx_join : Nx2 Mi.mJoin := by
  intro x y h e h' z
  unfold Mi.mJoin at z
  repeat (first | split at z | cases z)
theorem spl_eq (S : List Nat) : ∀ (l : List Nat) (k : Nat) (acc : List Nat), Mi.spl S k acc l = TL.spl S k acc l
  | [], k, acc => by cases k <;> rfl
  | c :: r, 0, acc => by
    unfold Mi.spl TL.spl
    rw [spl_eq S r, spl_eq S r]
    rfl
  | c :: r, k + 1, acc => by
    unfold Mi.spl TL.spl
    exact spl_eq S r k acc
theorem split_strs {s t : List Nat} (ht : t ≠ []) (h8 : t.all (· < 256) = true) : (Txt.split ⟨s.toArray⟩ ⟨t.toArray⟩).map V.str = ((Mi.spl t 0 [] s).map fun u => V.str ⟨u.toArray⟩) := by
  have e := TL.split_spl ⟨s.toArray⟩ ⟨t.toArray⟩ ht (TL.kind_ok (by simpa using h8))
  have e2 : (Txt.split ⟨s.toArray⟩ ⟨t.toArray⟩) = (Mi.spl t 0 [] s).map fun u => (⟨u.toArray⟩ : Str) := by
    apply TL.map_tl_inj
    rw [e, List.map_map, show (TL.tl ∘ fun t : List Nat => (⟨t.toArray⟩ : Str)) = id from rfl, List.map_id, spl_eq]
  rw [e2, List.map_map]
  rfl
theorem mt_splitM : MtR X "str.split" (oMt1 X.K Mi.mSplit) := by
  intro pins s σ H x xs v us Q I rx rs ⟨y, e0, c, h, ax, ay, e, rh, r1, r2, q⟩
  subst e0 e
  unfold Mi.mSplit at q
  split at q
  · rename_i a b
    split at q
    · rename_i hl
      obtain ⟨h1, h2, h3⟩ := hl
      rw [rep_str] at r1 r2
      subst r1 r2
      refine mt_split pins s σ _ _ _ v us Q I rx rs ⟨_, _, rfl, rfl, ?_, by rw [str_len, line_eq]; exact h2, ?_⟩
      · rw [str_len]
        cases b with
        | nil => exact absurd rfl h1
        | cons _ _ => rfl
      · intro p hp
        rw [split_strs h1 h3]
        exact q.lst rh (RepL.strs _) hp
    · exact q.elim
  · exact q.elim
theorem nx_split : Nx2 Mi.mSplit := by
  intro x y h e h' z
  unfold Mi.mSplit at z
  repeat (first | split at z | cases z)
theorem mt_appendM : MtR X "list.append" (oMt1 X.K Mi.mAppend) := by
  intro pins s σ H x xs v us Q I rx rs ⟨y, e0, c, h, ax, ay, e, rh, r1, r2, q⟩
  subst e0 e
  unfold Mi.mAppend at q
  split at q
  · rename_i n
    split at q
    · rename_i l hn
      split at q
      · rename_i hl
        rw [rep_cel] at r1
        obtain ⟨p, rfl, e2⟩ := r1
        obtain ⟨vs, e3, e4⟩ := cell_lst rh e2 hn
        refine mt_append pins s σ _ _ _ v us Q I rx rs ⟨p, vs, y, rfl, rfl, e3, by rw [← e4.length, line_eq]; exact hl, ?_⟩
        exact q.write rh e2 ⟨_, upd_same, RepL.ext (ext_write rh (List.mem_of_getElem? e2)) _ (e4.append (RepL.one r2))⟩ (by rw [rep_non])
      · exact q.elim
    · exact q.elim
  · exact q.elim
theorem nx_append : Nx2 Mi.mAppend := by
  intro x y h e h' z
  unfold Mi.mAppend at z
  repeat (first | split at z | cases z)
theorem mt_extendM : MtR X "list.extend" (oMt1 X.K Mi.mExtend) := by
  intro pins s σ H x xs v us Q I rx rs ⟨y, e0, c, h, ax, ay, e, rh, r1, r2, q⟩
  subst e0 e
  unfold Mi.mExtend at q
  split at q
  · rename_i n ys e1
    split at q
    · rename_i l hn
      split at q
      · rename_i hl
        rw [rep_cel] at r1
        obtain ⟨p, rfl, e2⟩ := r1
        obtain ⟨vs, e3, e4⟩ := cell_lst rh e2 hn
        obtain ⟨b, ws, rfl, e5, e6⟩ := lst_at rh r2 e1
        refine mt_extend pins s σ _ _ _ v us Q I rx rs ⟨p, b, vs, ws, rfl, rfl, e3, e5, by rw [← e4.length, ← e6.length, line_eq]; exact hl, ?_⟩
        exact q.write rh e2 ⟨_, upd_same, RepL.ext (ext_write rh (List.mem_of_getElem? e2)) _ (e4.append e6)⟩ (by rw [rep_non])
      · exact q.elim
    · exact q.elim
  · exact q.elim
theorem nx_extend : Nx2 Mi.mExtend := by
  intro x y h e h' z
  unfold Mi.mExtend at z
  repeat (first | split at z | cases z)
theorem mt_popM : MtR X "list.pop" (oMt0 X.K Mi.mPop) := by
  intro pins s σ H x xs v us Q I rx rs ⟨e0, c, h, ax, e, rh, r1, q⟩
  subst e0 e
  unfold Mi.mPop at q
  split at q
  · rename_i n
    split at q
    · rename_i l hn
      split at q
      · rename_i w hw
        rw [rep_cel] at r1
        obtain ⟨p, rfl, e2⟩ := r1
        obtain ⟨vs, e3, e4⟩ := cell_lst rh e2 hn
        obtain ⟨z, h1, h2⟩ := e4.get hw
        refine mt_pop pins s σ _ _ _ v us Q I rx rs ⟨p, vs, z, rfl, rfl, e3, by rw [← e4.length]; exact h1, ?_⟩
        exact q.write rh e2 ⟨_, upd_same, RepL.ext (ext_write rh (List.mem_of_getElem? e2)) _ e4.dropLast⟩ h2
      · exact q.elim
    · exact q.elim
  · exact q.elim
theorem nx_pop : Nx1 Mi.mPop := by
  intro x h e h' z
  unfold Mi.mPop at z
  repeat (first | split at z | cases z)
theorem mt_popAtM : MtR X "list.pop" (oMt1 X.K Mi.mPopAt) := by
  intro pins s σ H x xs v us Q I rx rs ⟨y, e0, c, h, ax, ay, e, rh, r1, r2, q⟩
  subst e0 e
  unfold Mi.mPopAt at q
  split at q
  · rename_i n i
    split at q
    · rename_i l hn
      split at q
      · rename_i k hk
        split at q
        · rename_i w hw
          rw [rep_cel] at r1
          obtain ⟨p, rfl, e2⟩ := r1
          rw [rep_int] at r2
          subst r2
          obtain ⟨vs, e3, e4⟩ := cell_lst rh e2 hn
          obtain ⟨z, h1, h2⟩ := e4.get hw
          obtain ⟨z1, _, _, _⟩ := I.lst e3
          rw [atN_eq, e4.length] at hk
          obtain ⟨k1, k2, k3, k4⟩ := ixN_seq hk
          have hb : vs.length ≤ sizeLine := by
            obtain ⟨_, _, _, _, hz⟩ := I.lst e3
            exact hz
          have hn := line63
          refine mt_popAt pins s σ _ _ _ v us Q I rx rs ⟨p, vs, i, k, z, rfl, rfl, e3, by omega, by omega, k1, h1, ?_⟩
          exact q.write rh e2 ⟨_, upd_same, RepL.ext (ext_write rh (List.mem_of_getElem? e2)) _ (e4.erase k)⟩ h2
        · exact q.elim
      · exact q.elim
    · exact q.elim
  · exact q.elim
theorem nx_popAt : Nx2 Mi.mPopAt := by
  intro x y h e h' z
  unfold Mi.mPopAt at z
  repeat (first | split at z | cases z)
/-! ### stores -/
def PVs (K : Fg) (c : Cn) (Q : Hp → Prop) : Option AH → Prop
  | some h => ∀ (d : Cn), d.X = c.X → Ext c d → RepH K d h → Q d.H
  | none => False
theorem set_M (hu : X.A.units + 1 < cLine) : PSet X (fun o i v H Q => ∃ (c : Cn) (h : AH) (ao ai av : AV), c.H = H ∧ RepH X.K c h ∧ Rep X.K c ao o ∧ Rep X.K c ai i ∧ Rep X.K c av v ∧ PVs X.K c Q (Mi.sPut ao ai av h)) := by
  intro pins s σ H o i v ov iv u Q I ro ri rv ⟨c, h, ao, ai, av, e, rh, r1, r2, r3, q⟩
  subst e
  unfold Mi.sPut at q
  split at q
  · rename_i n
    rw [rep_cel] at r1
    obtain ⟨p, rfl, e2⟩ := r1
    split at q
    · rename_i l hn
      obtain ⟨vs, e3, e4⟩ := cell_lst rh e2 hn
      split at q
      · rename_i k
        split at q
        · rename_i j hj
          rw [rep_int] at r2
          subst r2
          refine set_list pins s σ _ _ _ _ ov iv u Q I ro ri rv ⟨p, vs, k, j, rfl, rfl, e3, by rw [← atN_eq, ← e4.length]; exact hj, ?_⟩
          refine q (c.at (upd c.H p (.lst (vs.set j v)))) rfl (ext_write rh (List.mem_of_getElem? e2)) (rh.write e2 ⟨_, upd_same, RepL.ext (ext_write rh (List.mem_of_getElem? e2)) _ (e4.set j r3)⟩)
        · exact q.elim
      · exact q.elim
    · rename_i t kvs hn
      split at q
      · rename_i hk
        obtain ⟨hk, hl⟩ := hk
        have z := dic_at rh e2 hn
        cases ro
        cases t with
        | false =>
          obtain ⟨ks, e3, e4⟩ := z
          obtain ⟨k, ek⟩ := akey_of (x := ai) hk
          rw [akey_v r2 ek] at ri
          refine d_setItem hu I (DPut.k e3 (by rw [← e4.length, line_eq]; exact hl)) ri rv fun s' I' => ⟨_, I', ?_⟩
          exact q (c.at _) rfl (ext_write rh (List.mem_of_getElem? e2)) (rh.write e2 ⟨_, upd_same, RepKV.ext (ext_write rh (List.mem_of_getElem? e2)) (e4.put akey_eqv ek r3)⟩)
        | true =>
          obtain ⟨ks, e3, e4⟩ := z
          obtain ⟨xs, k, rfl, ek⟩ := akeyT_of (x := ai) hk
          rw [rep_tup] at r2
          obtain ⟨b, ws, rfl, hb, hv⟩ := r2
          rw [akeys_v hv ek] at hb
          refine d_setItem hu I (DPut.t e3 hb (by rw [← e4.length, line_eq]; exact hl)) ri rv fun s' I' => ⟨_, I', ?_⟩
          exact q (c.at _) rfl (ext_write rh (List.mem_of_getElem? e2)) (rh.write e2 ⟨_, upd_same, RepKV.ext (ext_write rh (List.mem_of_getElem? e2)) (e4.put akeyT_eqv (x := .tup xs) (k := k) ek r3)⟩)
      · exact q.elim
    · exact q.elim
  · exact q.elim
end
end MiS

end

section
set_option maxHeartbeats 4000000
namespace MiS
open PySem PySem.Spec L2
open PyProof.Rows hiding St
open Mi (AV HC AH AX Res AS RS)

/-! ### expressions -/
section
variable {ct : Ct} {X : Cx} {W : WX} {a b e : Expr} {es : List Expr} {ma mb mc me : Mi.E} {pos : Pos}
theorem Post.pv {K : Fg} {ct : Ct} {W : WX} {c : Cn} {σ : St} {Q : VK} {r : Res AV} (h : Post K ct W (RE K) c σ Q r) (hn : ∀ e h', r ≠ .ex e h') : PV K c Q r := by
  cases r with
  | ok a h' => exact h
  | ex e h' => exact absurd rfl (hn e h')
  | no => exact h
theorem q_var (i : Nat) {x : Str} (hN : X.N[i]? = some x := by rfl) (hv : Vis X.env.scope x := by first | exact Or.inl rfl | exact Or.inr (Or.inl rfl) | exact Or.inr (Or.inr rfl)) (hd : (x == ("__debug__" : Str)) = false := by decide)
    (hcd : (x == ("__classdict__" : Str)) = false := by decide) (hk : ct.ok i = true := by rfl) : QE ct X W (.Name x pos) (Mi.eVar i) := by
  refine PE.imp (pe_var (i := i) hN hv hd hcd) fun σ H Q ⟨c, h, as, e, rh, rs, q⟩ => ?_
  subst e
  unfold Mi.eVar at q
  split at q
  · rename_i v hv
    obtain ⟨w, h1, h2⟩ := rs.2.1 i v hk hv
    exact ⟨w, h1, q c w rfl (.refl c) rh h2⟩
  · exact q.elim
theorem q_c {v : V} {av : AV} (p : PE X e (tC v)) (r : ∀ c : Cn, Rep X.K c av v) : QE ct X W e (Mi.eC av) :=
  PE.imp p fun σ H Q ⟨c, h, as, e, rh, rs, q⟩ => by
    subst e
    exact q c v rfl (.refl c) rh (r c)
theorem q_int {i j} : QE ct X W (.Constant (.int i) j pos) (Mi.eC (.int i)) := q_c pe_int fun c => by rw [rep_int]
theorem q_bl {k j} : QE ct X W (.Constant (.bool k) j pos) (Mi.eC (.bl k)) := q_c pe_bl fun c => by rw [rep_bl]
theorem q_non {j} : QE ct X W (.Constant .none j pos) (Mi.eC .non) := q_c pe_non fun c => by rw [rep_non]
theorem q_str {x : Str} {j} (l : List Nat) (hx : x = ⟨l.toArray⟩ := by decide +kernel) : QE ct X W (.Constant (.str x) j pos) (Mi.eC (.str l)) := q_c pe_str fun c => by rw [rep_str, hx]
/-- two expressions, then an operation by values -/
theorem use_op2 {K : Fg} {σ : St} {H : Hp} {Q : VK} {f : AV → AV → Mi.M AV} (hf : Nx2 f) (h : tM K ct W (RE K) (Mi.eOp2 f ma mb) σ H Q) :
    tM K ct W (RE K) ma σ H fun x H1 => tM K ct W (RE K) mb σ H1 fun y H2 => oM2 K f x y H2 Q := by
  obtain ⟨c, h, as, e, rh, rs, q⟩ := h
  subst e
  refine tM_bind (P := fun c r => Post K ct W (RE K) c σ Q r) Post.pk rh rs q fun d h1 a v hx e1 rh1 rs1 r1 q1 => ?_
  refine tM_bind (P := fun c r => Post K ct W (RE K) c σ Q r) Post.pk rh1 rs1 q1 fun d2 h2 b w hx2 e2 rh2 rs2 r2 q2 => ?_
  exact ⟨d2, h2, a, b, rfl, rh2, r1.ext e2, r2, q2.pv (hf a b h2)⟩
theorem use_op1 {K : Fg} {σ : St} {H : Hp} {Q : VK} {f : AV → Mi.M AV} (hf : Nx1 f) (h : tM K ct W (RE K) (Mi.eOp1 f ma) σ H Q) :
    tM K ct W (RE K) ma σ H fun x H1 => oM1 K f x H1 Q := by
  obtain ⟨c, h, as, e, rh, rs, q⟩ := h
  subst e
  refine tM_bind (P := fun c r => Post K ct W (RE K) c σ Q r) Post.pk rh rs q fun d h1 a v hx e1 rh1 rs1 r1 q1 => ?_
  exact ⟨d, h1, a, rfl, rh1, r1, q1.pv (hf a h1)⟩
theorem q_op {op : Operator} {f : AV → AV → Mi.M AV} (ho : OpR X (binaryOp op) (oM2 X.K f)) (hf : Nx2 f) (ha : QE ct X W a ma) (hb : QE ct X W b mb) : QE ct X W (.BinOp a op b pos) (Mi.eOp2 f ma mb) :=
  PE.imp (pe_op ho ha hb) fun σ H Q h => use_op2 hf h
theorem q_un {op : UnaryOp} {f : AV → Mi.M AV} (ho : UnR X (unaryOp op) (oM1 X.K f)) (hf : Nx1 f) (ha : QE ct X W a ma) : QE ct X W (.UnaryOp op a pos) (Mi.eOp1 f ma) :=
  PE.imp (pe_un ho ha) fun σ H Q h => use_op1 hf h
theorem q_cmp {op : CmpOp} {f : AV → AV → Mi.M AV} (ho : OpR X (compareOp op) (oM2 X.K f)) (hf : Nx2 f) (ha : QE ct X W a ma) (hb : QE ct X W b mb) (hm : behindInMarks op b = false) : QE ct X W (.Compare a [op] [b] pos) (Mi.eOp2 f ma mb) :=
  PE.imp (pe_cmpR ho ha hb hm) fun σ H Q h => use_op2 hf h
theorem use_test {K : Fg} {σ : St} {H : Hp} {Q : Bool → Hp → Prop} (h : tM K ct W RQ (Mi.tB ma) σ H Q) : tM K ct W (RE K) ma σ H fun x H1 => ∃ k, x = .bl k ∧ Q k H1 := by
  obtain ⟨c, h, as, e, rh, rs, q⟩ := h
  subst e
  refine tM_bind (P := fun c r => Post K ct W RQ c σ Q r) Post.pk rh rs q fun d h1 a v hx e1 rh1 rs1 r1 q1 => ?_
  split at q1
  · rw [RE, rep_bl] at r1
    exact ⟨_, r1, q1 d _ rfl (.refl d) rh1 rfl⟩
  · exact q1.elim
theorem use_test2 {K : Fg} {σ : St} {H : Hp} {Q : Bool → Hp → Prop} {f : AV → AV → Mi.M AV} (hf : Nx2 f) (h : tM K ct W RQ (Mi.tB (Mi.eOp2 f ma mb)) σ H Q) :
    tM K ct W (RE K) ma σ H fun x H1 => tM K ct W (RE K) mb σ H1 fun y H2 => oM2 K f x y H2 fun x H' => ∃ k, x = .bl k ∧ Q k H' := use_op2 hf (use_test h)
theorem qt_cmp {op : CmpOp} {f : AV → AV → Mi.M AV} (ho : OpR X (compareOp op) (oM2 X.K f)) (hf : Nx2 f) (ha : QE ct X W a ma) (hb : QE ct X W b mb) (hm : behindInMarks op b = false) : QT ct X W (.Compare a [op] [b] pos) (Mi.tB (Mi.eOp2 f ma mb)) :=
  PT.imp (pt_cmpR ho ha hb hm) fun σ H Q h => use_test2 hf h
/-- is None -/
theorem q_isN {j pos'} (ha : QE ct X W a ma) : QE ct X W (.Compare a [.Is] [.Constant .none j pos'] pos) (Mi.eOp1 Mi.oIsN ma) :=
  PE.imp (pe_cmp (pc_isN ha) rfl) fun σ H Q ⟨c, h, as, e, rh, rs, q⟩ => by
    subst e
    refine tM_bind (P := fun c r => Post X.K ct W (RE X.K) c σ Q r) Post.pk rh rs q fun d h1 a v hx e1 rh1 rs1 r1 q1 => ?_
    rw [oIsN_eq] at q1
    rw [rep_isN r1]
    exact q1 d _ rfl (.refl d) rh1 (by rw [RE, rep_bl])
theorem q_notN {j pos'} (ha : QE ct X W a ma) : QE ct X W (.Compare a [.IsNot] [.Constant .none j pos'] pos) (Mi.eOp1 Mi.oNotN ma) :=
  PE.imp (pe_cmp (pc_notN ha) rfl) fun σ H Q ⟨c, h, as, e, rh, rs, q⟩ => by
    subst e
    refine tM_bind (P := fun c r => Post X.K ct W (RE X.K) c σ Q r) Post.pk rh rs q fun d h1 a v hx e1 rh1 rs1 r1 q1 => ?_
    rw [oNotN_eq] at q1
    rw [rep_isN r1]
    exact q1 d _ rfl (.refl d) rh1 (by rw [RE, rep_bl])
/-- an expression as a test, a bool -/
theorem qt_val {t : Mi.E} (h : QE ct X W e t) (he : ∀ whole, isTrue e X.env whole = (do let v ← whole; standAt e.pos; holding [v] (truthy v)) := by intro _; rfl) : QT ct X W e (Mi.tB t) :=
  PT.imp (pt_val h he) fun σ H Q h => use_test h
theorem qt_isN {j pos'} (ha : QE ct X W a ma) : QT ct X W (.Compare a [.Is] [.Constant .none j pos'] pos) (Mi.tB (Mi.eOp1 Mi.oIsN ma)) :=
  PT.imp (pt_cmp (pc_isN ha) rfl) fun σ H Q h => by
    obtain ⟨c, h, as, e, rh, rs, q⟩ := use_test h
    subst e
    refine tM_bind (P := fun c r => Post X.K ct W (RE X.K) c σ (fun x H1 => ∃ k, x = V.bl k ∧ Q k H1) r) Post.pk rh rs q fun d h1 a v hx e1 rh1 rs1 r1 q1 => ?_
    rw [oIsN_eq] at q1
    rw [rep_isN r1]
    exact q1 d _ rfl (.refl d) rh1 (by rw [RE, rep_bl])
theorem qt_notN {j pos'} (ha : QE ct X W a ma) : QT ct X W (.Compare a [.IsNot] [.Constant .none j pos'] pos) (Mi.tB (Mi.eOp1 Mi.oNotN ma)) :=
  PT.imp (pt_cmp (pc_notN ha) rfl) fun σ H Q h => by
    obtain ⟨c, h, as, e, rh, rs, q⟩ := use_test h
    subst e
    refine tM_bind (P := fun c r => Post X.K ct W (RE X.K) c σ (fun x H1 => ∃ k, x = V.bl k ∧ Q k H1) r) Post.pk rh rs q fun d h1 a v hx e1 rh1 rs1 r1 q1 => ?_
    rw [oNotN_eq] at q1
    rw [rep_isN r1]
    exact q1 d _ rfl (.refl d) rh1 (by rw [RE, rep_bl])
variable {tA tB' : Mi.T} {rest : List Expr}
theorem qw_and1 (ha : QT ct X W a tA) : QW ct X W (.BoolOp .And [a] pos) tA := pw_and1 ha
theorem qw_or1 (ha : QT ct X W a tA) : QW ct X W (.BoolOp .Or [a] pos) tA := pw_or1 ha
theorem qw_and (ha : QT ct X W a tA) (hb : QW ct X W (.BoolOp .And (b :: rest) pos) tB') : QW ct X W (.BoolOp .And (a :: b :: rest) pos) (Mi.tAnd tA tB') :=
  PW.imp (pw_and ha hb) fun σ H Q ⟨c, h, as, e, rh, rs, q⟩ => by
    subst e
    refine tM_bind (P := fun c r => Post X.K ct W RQ c σ Q r) Post.pk rh rs q fun d h1 a v hx e1 rh1 rs1 r1 q1 => ?_
    cases r1
    cases a with
    | true => exact ⟨d, h1, as, rfl, rh1, rs1, q1⟩
    | false => exact q1 d _ rfl (.refl d) rh1 rfl
theorem qw_or (ha : QT ct X W a tA) (hb : QW ct X W (.BoolOp .Or (b :: rest) pos) tB') : QW ct X W (.BoolOp .Or (a :: b :: rest) pos) (Mi.tOr tA tB') :=
  PW.imp (pw_or ha hb) fun σ H Q ⟨c, h, as, e, rh, rs, q⟩ => by
    subst e
    refine tM_bind (P := fun c r => Post X.K ct W RQ c σ Q r) Post.pk rh rs q fun d h1 a v hx e1 rh1 rs1 r1 q1 => ?_
    cases r1
    cases a with
    | true => exact q1 d _ rfl (.refl d) rh1 rfl
    | false => exact ⟨d, h1, as, rfl, rh1, rs1, q1⟩
theorem qt_w (h : QW ct X W e tA) : QT ct X W e tA := h.pt
theorem qt_not (ha : QT ct X W a tA) : QT ct X W (.UnaryOp .Not a pos) (Mi.tNot tA) :=
  PT.imp (pt_not ha) fun σ H Q ⟨c, h, as, e, rh, rs, q⟩ => by
    subst e
    refine tM_bind (P := fun c r => Post X.K ct W RQ c σ Q r) Post.pk rh rs q fun d h1 a v hx e1 rh1 rs1 r1 q1 => ?_
    cases r1
    exact q1 d _ rfl (.refl d) rh1 rfl
theorem q_one {op} (h : QE ct X W a ma) : QE ct X W (.BoolOp op [a] pos) ma := pe_one h
theorem q_and (ha : QE ct X W a ma) (hb : QE ct X W (.BoolOp .And (b :: rest) pos) mb) : QE ct X W (.BoolOp .And (a :: b :: rest) pos) (Mi.eAnd ma mb) :=
  PE.imp (pe_and ha hb) fun σ H Q ⟨c, h, as, e, rh, rs, q⟩ => by
    subst e
    refine tM_bind (P := fun c r => Post X.K ct W (RE X.K) c σ Q r) Post.pk rh rs q fun d h1 a v hx e1 rh1 rs1 r1 q1 => ?_
    split at q1
    · rw [RE, rep_bl] at r1
      exact ⟨true, r1, by rw [if_pos rfl]; exact ⟨d, h1, as, rfl, rh1, rs1, q1⟩⟩
    · rw [RE, rep_bl] at r1
      exact ⟨false, r1, by rw [if_neg Bool.false_ne_true]; exact q1 d _ rfl (.refl d) rh1 (by rw [RE, rep_bl])⟩
    · exact q1.elim
theorem q_or (ha : QE ct X W a ma) (hb : QE ct X W (.BoolOp .Or (b :: rest) pos) mb) : QE ct X W (.BoolOp .Or (a :: b :: rest) pos) (Mi.eOr ma mb) :=
  PE.imp (pe_or ha hb) fun σ H Q ⟨c, h, as, e, rh, rs, q⟩ => by
    subst e
    refine tM_bind (P := fun c r => Post X.K ct W (RE X.K) c σ Q r) Post.pk rh rs q fun d h1 a v hx e1 rh1 rs1 r1 q1 => ?_
    split at q1
    · rw [RE, rep_bl] at r1
      exact ⟨true, r1, by rw [if_pos rfl]; exact q1 d _ rfl (.refl d) rh1 (by rw [RE, rep_bl])⟩
    · rw [RE, rep_bl] at r1
      exact ⟨false, r1, by rw [if_neg Bool.false_ne_true]; exact ⟨d, h1, as, rfl, rh1, rs1, q1⟩⟩
    · exact q1.elim
theorem q_not (ha : QE ct X W a ma) : QE ct X W (.UnaryOp .Not a pos) (Mi.eNot ma) :=
  PE.imp (pe_not ha) fun σ H Q ⟨c, h, as, e, rh, rs, q⟩ => by
    subst e
    refine tM_bind (P := fun c r => Post X.K ct W (RE X.K) c σ Q r) Post.pk rh rs q fun d h1 a v hx e1 rh1 rs1 r1 q1 => ?_
    split at q1
    · rw [RE, rep_bl] at r1
      exact ⟨_, r1, q1 d _ rfl (.refl d) rh1 (by rw [RE, rep_bl])⟩
    · exact q1.elim
theorem q_ifExp {t : Expr} (hc : QT ct X W t tA) (ha : QE ct X W a ma) (hb : QE ct X W b mb) : QE ct X W (.IfExp t a b pos) (Mi.eIf tA ma mb) :=
  PE.imp (pe_ifExp hc ha hb) fun σ H Q ⟨c, h, as, e, rh, rs, q⟩ => by
    subst e
    refine tM_bind (P := fun c r => Post X.K ct W (RE X.K) c σ Q r) Post.pk rh rs q fun d h1 a v hx e1 rh1 rs1 r1 q1 => ?_
    cases r1
    cases a with
    | true => exact ⟨d, h1, as, rfl, rh1, rs1, q1⟩
    | false => exact ⟨d, h1, as, rfl, rh1, rs1, q1⟩
theorem use_chain {K : Fg} {σ : St} {H : Hp} {Q : VK} {f g : AV → AV → Mi.M AV} (hf : Nx2 f) (hg : Nx2 g) (q : tM K ct W (RE K) (Mi.eChain f g ma mb mc) σ H Q) :
    tChain (oM2 K f) (oM2 K g) (tM K ct W (RE K) ma) (tM K ct W (RE K) mb) (tM K ct W (RE K) mc) σ H Q := by
  obtain ⟨c, h, as, e, rh, rs, q⟩ := q
  subst e
  refine tM_bind (P := fun c r => Post K ct W (RE K) c σ Q r) Post.pk rh rs q fun d h1 a v hx e1 rh1 rs1 r1 q1 => ?_
  refine tM_bind (P := fun c r => Post K ct W (RE K) c σ Q r) Post.pk rh1 rs1 q1 fun d2 h2 b w hx2 e2 rh2 rs2 r2 q2 => ?_
  refine ⟨d2, h2, a, b, rfl, rh2, r1.ext e2, r2, ?_⟩
  cases z : f a b h2 with
  | no => rw [z] at q2; exact q2.elim
  | ex x h3 => exact absurd z (hf a b h2 x h3)
  | ok a3 h3 =>
    rw [z] at q2
    intro d3 v3 hx3 e3 rh3 r3
    have q3 := Post.mono hx3 e3 q2
    dsimp only [Mi.Res.bind_ok] at q3
    split at q3
    · rw [rep_bl] at r3
      refine ⟨true, r3, ?_⟩
      rw [if_pos rfl]
      refine tM_bind (P := fun c r => Post K ct W (RE K) c σ Q r) Post.pk rh3 (rs2.ext e3) q3 fun d4 h4 a4 v4 hx4 e4 rh4 rs4 r4 q4 => ?_
      exact ⟨d4, h4, b, a4, rfl, rh4, (r2.ext e3).ext e4, r4, q4.pv (hg b a4 h4)⟩
    · rw [rep_bl] at r3
      refine ⟨false, r3, ?_⟩
      rw [if_neg Bool.false_ne_true]
      exact q3 d3 _ rfl (.refl d3) rh3 (by rw [RE, rep_bl])
    · exact q3.elim
theorem q_chain {op op' : CmpOp} {f g : AV → AV → Mi.M AV} {c : Expr} (ho : OpR X (compareOp op) (oM2 X.K f)) (hf : Nx2 f) (ho' : OpR X (compareOp op') (oM2 X.K g)) (hg : Nx2 g) (ha : QE ct X W a ma) (hb : QE ct X W b mb) (hc : QE ct X W c mc)
    (hm : lastMarks [op, op'] [b, c] = false := by with_unfolding_all rfl) : QE ct X W (.Compare a [op, op'] [b, c] pos) (Mi.eChain f g ma mb mc) :=
  PE.imp (pe_chain ho ho' ha hb hc hm) fun σ H Q h => use_chain hf hg h
theorem qt_chain {op op' : CmpOp} {f g : AV → AV → Mi.M AV} {c : Expr} (ho : OpR X (compareOp op) (oM2 X.K f)) (hf : Nx2 f) (ho' : OpR X (compareOp op') (oM2 X.K g)) (hg : Nx2 g) (ha : QE ct X W a ma) (hb : QE ct X W b mb) (hc : QE ct X W c mc)
    (hm : lastMarks [op, op'] [b, c] = false := by with_unfolding_all rfl) : QT ct X W (.Compare a [op, op'] [b, c] pos) (Mi.tB (Mi.eChain f g ma mb mc)) :=
  PT.imp (pt_chain ho ho' ha hb hc hm) fun σ H Q h => use_chain hf hg (use_test h)
/-! arguments, displays -/
variable {m : Mi.A}
theorem qa_nil : QA ct X W [] Mi.aNil := PA.imp pa_nil fun σ H Q ⟨c, h, as, e, rh, rs, q⟩ => by
  subst e
  exact q c _ rfl (.refl c) rh (by rw [RA, repL_nil])
theorem qa_cons (ha : QE ct X W e me) (hr : QA ct X W es m) (hs : starEach (e :: es) X.env = (false, eval e X.env) :: starEach es X.env := by rfl) : QA ct X W (e :: es) (Mi.aCons me m) :=
  PA.imp (pa_cons ha hr hs) fun σ H Q ⟨c, h, as, e, rh, rs, q⟩ => by
    subst e
    refine tM_bind (P := fun c r => Post X.K ct W (RA X.K) c σ Q r) Post.pk rh rs q fun d h1 a v hx e1 rh1 rs1 r1 q1 => ?_
    refine tM_bind (P := fun c r => Post X.K ct W (RA X.K) c σ Q r) Post.pk rh1 rs1 q1 fun d2 h2 b w hx2 e2 rh2 rs2 r2 q2 => ?_
    exact q2 d2 _ rfl (.refl d2) rh2 (RepL.cons (r1.ext e2) r2)
theorem q_tup {x1} (h : QA ct X W es m) : QE ct X W (.Tuple es x1 pos) (Mi.eTup m) :=
  PE.imp (pe_tup h) fun σ H Q ⟨c, h, as, e, rh, rs, q⟩ => by
    subst e
    refine tM_bind (P := fun c r => Post X.K ct W (RE X.K) c σ Q r) Post.pk rh rs q fun d h1 a v hx e1 rh1 rs1 r1 q1 => ?_
    split at q1
    · rename_i hl
      exact ⟨by rw [← RepL.length r1, line_eq]; exact hl, fun p hp => PV.tup (K := X.K) (h := h1) q1 rh1 r1 hp⟩
    · exact q1.elim
theorem q_lst (h : QA ct X W es m) : QE ct X W (.List es pos) (Mi.eLst m) :=
  PE.imp (pe_lst h) fun σ H Q ⟨c, h, as, e, rh, rs, q⟩ => by
    subst e
    refine tM_bind (P := fun c r => Post X.K ct W (RE X.K) c σ Q r) Post.pk rh rs q fun d h1 a v hx e1 rh1 rs1 r1 q1 => ?_
    split at q1
    · rename_i hl
      exact ⟨by rw [← RepL.length r1, line_eq]; exact hl, fun p hp => PV.lst (K := X.K) (h := h1) q1 rh1 r1 hp⟩
    · exact q1.elim
theorem q_lstC (h : QA ct X W es m) : QE ct X W (.List es pos) (Mi.eLstC m) :=
  PE.imp (pe_lst h) fun σ H Q ⟨c, h, as, e, rh, rs, q⟩ => by
    subst e
    refine tM_bind (P := fun c r => Post X.K ct W (RE X.K) c σ Q r) Post.pk rh rs q fun d h1 a v hx e1 rh1 rs1 r1 q1 => ?_
    split at q1
    · rename_i hl
      exact ⟨by rw [← RepL.length r1, line_eq]; exact hl, fun p hp => PV.cell (K := X.K) (h := h1) q1 rh1 r1 hp⟩
    · exact q1.elim
theorem q_dic : QE ct X W (.Dict [] [] pos) (Mi.eDic0 false) :=
  PE.imp pe_dnewK fun σ H Q ⟨c, h, as, e, rh, rs, q⟩ => by
    subst e
    exact fun p hp => PV.dict (K := X.K) (h := h) q rh hp
theorem q_dicT : QE ct X W (.Dict [] [] pos) (Mi.eDic0 true) :=
  PE.imp pe_dnewT fun σ H Q ⟨c, h, as, e, rh, rs, q⟩ => by
    subst e
    exact fun p hp => PV.dictT (K := X.K) (h := h) q rh hp
/-! subscripts, slices -/
theorem q_ix (hu : X.A.units + 1 < cLine) (ha : QE ct X W a ma) (hb : QE ct X W b mb) (hs : PlainIx b) : QE ct X W (.Subscript a b pos) (Mi.eOp2 Mi.oIx ma mb) :=
  PE.imp (pe_ix (ix_M hu) ha hb hs) fun σ H Q h => use_op2 nx_ix h
theorem qo_none : QO ct X W none Mi.oNo := PO.imp po_none fun σ H Q ⟨c, h, as, e, rh, rs, q⟩ => by
  subst e
  exact q c _ rfl (.refl c) rh rfl
theorem qo_some (h : QE ct X W e me) : QO ct X W (some e) (Mi.oAt me) := PO.imp (po_some h) fun σ H Q ⟨c, h, as, e, rh, rs, q⟩ => by
  subst e
  refine tM_bind (P := fun c r => Post X.K ct W RQ c σ Q r) Post.pk rh rs q fun d h1 a v hx e1 rh1 rs1 r1 q1 => ?_
  split at q1
  · rw [RE, rep_int] at r1
    exact ⟨_, r1, q1 d _ rfl (.refl d) rh1 rfl⟩
  · exact q1.elim
theorem nx_sl : ∀ x lo hi h e h', Mi.oSl x lo hi h ≠ .ex e h' := by
  intro x lo hi h e h' z
  unfold Mi.oSl at z
  repeat (first | split at z | cases z)
theorem q_slice {lo hi : Option Expr} {ml mh : Mi.O} {p2 : Pos} (he : QE ct X W e me) (hl : QO ct X W lo ml) (hu : QO ct X W hi mh) : QE ct X W (.Subscript e (.Slice lo hi none p2) pos) (Mi.eSl me ml mh) :=
  PE.imp (pe_slice sl_M he hl hu) fun σ H Q ⟨c, h, as, e, rh, rs, q⟩ => by
    subst e
    refine tM_bind (P := fun c r => Post X.K ct W (RE X.K) c σ Q r) Post.pk rh rs q fun d h1 a v hx e1 rh1 rs1 r1 q1 => ?_
    refine tM_bind (P := fun c r => Post X.K ct W (RE X.K) c σ Q r) Post.pk rh1 rs1 q1 fun d2 h2 b w hx2 e2 rh2 rs2 r2 q2 => ?_
    refine tM_bind (P := fun c r => Post X.K ct W (RE X.K) c σ Q r) Post.pk rh2 rs2 q2 fun d3 h3 b3 w3 hx3 e3 rh3 rs3 r3 q3 => ?_
    cases r2
    cases r3
    exact ⟨d3, h3, a, rfl, rh3, (r1.ext e2).ext e3, q3.pv (nx_sl a b b3 h3)⟩
/-! calls of built-ins -/
theorem use_call {K : Fg} {σ : St} {H : Hp} {Q : VK} {f : List AV → Mi.M AV} (hf : NxN f) (h : tM K ct W (RE K) (Mi.eCall f m) σ H Q) : tM K ct W (RA K) m σ H fun xs H1 => oMN K f xs H1 Q := by
  obtain ⟨c, h, as, e, rh, rs, q⟩ := h
  subst e
  refine tM_bind (P := fun c r => Post K ct W (RE K) c σ Q r) Post.pk rh rs q fun d h1 a v hx e1 rh1 rs1 r1 q1 => ?_
  exact ⟨d, h1, a, rfl, rh1, r1, q1.pv (hf a h1)⟩
theorem q_callB {f : List AV → Mi.M AV} {id : String} {x : Str} {p : Pos} (hc : CallR X (.builtin id) (oMN X.K f)) (hf : NxN f) (hg : Gl X x) (hm : X.mg x = none) (hv : bootBuiltins x = some (.builtin id)) (ha : QA ct X W (e :: es) m) (hn : x ≠ "__name__" := by decide) (hdb : (x == ("__debug__" : Str)) = false := by decide)
    (he : starEach (e :: es) X.env = (false, eval e X.env) :: starEach es X.env := by rfl) (hpl : (backTo pos (starEach es X.env)).any (·.1) = false := by rfl) : QE ct X W (.Call (.Name x p) (e :: es) [] pos) (Mi.eCall f m) :=
  PE.imp (pe_callB hc hg hm hv ha hn hdb he hpl) fun σ H Q h => use_call hf h
theorem q_callTy {f : List AV → Mi.M AV} {T : String} {x : Str} {p : Pos} (hc : CallR X (.type T) (oMN X.K f)) (hf : NxN f) (hg : Gl X x) (hm : X.mg x = none) (hv : bootBuiltins x = some (.type T)) (ha : QA ct X W (e :: es) m) (hn : x ≠ "__name__" := by decide) (hdb : (x == ("__debug__" : Str)) = false := by decide)
    (he : starEach (e :: es) X.env = (false, eval e X.env) :: starEach es X.env := by rfl) (hpl : (backTo pos (starEach es X.env)).any (·.1) = false := by rfl) : QE ct X W (.Call (.Name x p) (e :: es) [] pos) (Mi.eCall f m) :=
  PE.imp (pe_callTy hc hg hm hv ha hn hdb he hpl) fun σ H Q h => use_call hf h
/-- isinstance(e, T), T a built-in type by its name -/
theorem q_isTy {t : String} {y : Str} {p p2 : Pos} (ht : t = "int" ∨ t = "bool" ∨ t = "str" ∨ t = "tuple" ∨ t = "list" ∨ t = "dict") (hg : Gl X "isinstance") (hm : X.mg "isinstance" = none) (hgy : Gl X y) (hmy : X.mg y = none) (hvy : bootBuiltins y = some (.type t)) (ha : QE ct X W e me)
    (hny : y ≠ "__name__" := by decide) (hdby : (y == ("__debug__" : Str)) = false := by decide)
    (he : starEach (e :: [.Name y p2]) X.env = (false, eval e X.env) :: starEach [.Name y p2] X.env := by rfl) (he2 : starEach [.Name y p2] X.env = (false, eval (.Name y p2) X.env) :: starEach [] X.env := by rfl)
    (hpl : (backTo pos (starEach [.Name y p2] X.env)).any (·.1) = false := by rfl) : QE ct X W (.Call (.Name "isinstance" p) [e, .Name y p2] [] pos) (Mi.eOp1 (Mi.oIsTy t) me) :=
  PE.imp (pe_callB call_isiM hg hm (by decide +kernel) (pa_cons ha (pa_cons (pe_bltn hgy hmy hvy (v := .ty t) rfl hny hdby) pa_nil he2) he) (by decide) (by decide) he hpl) fun σ H Q h => by
    obtain ⟨c, h, as, e, rh, rs, q⟩ := h
    subst e
    refine tM_bind (P := fun c r => Post X.K ct W (RE X.K) c σ Q r) Post.pk rh rs q fun d h1 a v hx e1 rh1 rs1 r1 q1 => ?_
    exact ⟨v, t, rfl, ht, d, h1, a, rfl, rh1, r1, q1.pv (nx_isTy t a h1)⟩
/-! methods -/
/-- the receiver's type, by value -/
abbrev tyA := @Mi.tyA
theorem ty_at {K : Fg} {c : Cn} {h : AH} {x : AV} {v : V} {T : String} (rh : RepH K c h) (r : Rep K c x v) (e : tyA T h x = true) : tyV K T v c.H := by
  cases x with
  | str s => rw [rep_str] at r; subst r; exact eq_of_beq e
  | lst l =>
    rw [rep_lst] at r
    obtain ⟨p, vs, rfl, e2, _⟩ := r
    exact .inl ⟨eq_of_beq e, vs, e2.sq⟩
  | cel n =>
    rw [rep_cel] at r
    obtain ⟨p, rfl, e2⟩ := r
    have e : (match h[n]? with | some (.lst _) => T == "list" | some (.dic _ _) => T == "dict" | none => false) = true := e
    split at e
    · rename_i l hn
      obtain ⟨vs, e3, _⟩ := cell_lst rh e2 hn
      exact .inl ⟨eq_of_beq e, vs, .inl (.inl e3)⟩
    · rename_i t kvs hn
      have z := dic_at rh e2 hn
      cases t with
      | false =>
        obtain ⟨ks, e3, _⟩ := z
        exact .inr (.inr (.inl ⟨eq_of_beq e, .inl ⟨ks, e3⟩⟩))
      | true =>
        obtain ⟨ks, e3, _⟩ := z
        exact .inr (.inr (.inl ⟨eq_of_beq e, .inr ⟨ks, e3⟩⟩))
    · cases e
  | _ => cases e
/-- the type stays behind an extension in which the method still answers -/
def Ty1 (T : String) (f : AV → Mi.M AV) : Prop := ∀ x h, tyA T h x = true ∨ f x h = .no
theorem q_m0 {f : AV → Mi.M AV} {T id : String} {name : Str} {o : Expr} {mo : Mi.E} {apos cpos : Pos} (pa : PlainAttrs T) (slot : Slot T name id) (hty : typeOf (.builtin id) = pure (.type "method_descriptor")) (hm : MtR X id (oMt0 X.K f)) (hf : Nx1 f) (ht : Ty1 T f) (ho : QE ct X W o mo)
    (hbase : attributeBase o name X.env (eval o X.env) = eval o X.env := by rfl) (hline : (apos.endLine == cpos.line) = true := by rfl) : QE ct X W (.Call (.Attribute o name apos) [] [] cpos) (Mi.eOp1 f mo) :=
  PE.imp (pe_bm0 pa slot hty hm ho hbase hline) fun σ H Q ⟨c, h, as, e, rh, rs, q⟩ => by
    subst e
    refine tM_bind (P := fun c r => Post X.K ct W (RE X.K) c σ Q r) Post.pk rh rs q fun d h1 a v hx e1 rh1 rs1 r1 q1 => ?_
    rcases ht a h1 with z | z
    · exact ⟨ty_at rh1 r1 z, rfl, d, h1, a, rfl, rh1, r1, q1.pv (hf a h1)⟩
    · rw [z] at q1
      exact q1.elim
theorem q_m1 {f : AV → AV → Mi.M AV} {T id : String} {name : Str} {o : Expr} {mo : Mi.E} {apos cpos : Pos} (pa : PlainAttrs T) (slot : Slot T name id) (hty : typeOf (.builtin id) = pure (.type "method_descriptor")) (hm : MtR X id (oMt1 X.K f)) (hf : Nx2 f) (ho : QE ct X W o mo) (ha : QE ct X W e me)
    (hbase : attributeBase o name X.env (eval o X.env) = eval o X.env := by rfl)
    (hfew : ((backTo cpos (starEach (e :: []) X.env)).all (fun x => !x.1) && (backToKw cpos (keywordEach [] X.env)).all (fun x => x.1.isSome)
      && decide ((e :: ([] : List Expr)).length + ([] : List Keyword).length + (if ([] : List Keyword).isEmpty then 0 else 1) < 30)) = true := by rfl)
    (hline : (apos.endLine == cpos.line) = true := by rfl) (hs : starEach (e :: []) X.env = (false, eval e X.env) :: starEach [] X.env := by rfl) (hplain : (backTo cpos (starEach [] X.env)).any (·.1) = false := by rfl) :
    QE ct X W (.Call (.Attribute o name apos) [e] [] cpos) (Mi.eM1 T f mo me) :=
  PE.imp (pe_bm pa slot hty hm ho (pa_cons ha pa_nil hs) hbase hfew hline hs hplain) fun σ H Q ⟨c, h, as, e, rh, rs, q⟩ => by
    subst e
    refine tM_bind (P := fun c r => Post X.K ct W (RE X.K) c σ Q r) Post.pk rh rs q fun d h1 a v hx e1 rh1 rs1 r1 q1 => ?_
    split at q1
    · rename_i z
      refine ⟨ty_at rh1 r1 z, ?_⟩
      refine tM_bind (P := fun c r => Post X.K ct W (RE X.K) c σ Q r) Post.pk rh1 rs1 q1 fun d2 h2 b w hx2 e2 rh2 rs2 r2 q2 => ?_
      exact ⟨w, rfl, d2, h2, a, b, rfl, rh2, r1.ext e2, r2, q2.pv (hf a b h2)⟩
    · exact q1.elim
end
end MiS

end

section
set_option maxHeartbeats 4000000
namespace MiS
open PySem PySem.Spec L2
open PyProof.Rows hiding St
open Mi (AV HC AH AX Res AS RS)

/-! ### statements -/
def PostS (K : Fg) (ct : Ct) (W : WX) (D : Ends) (c : Cn) : RS → Prop
  | .nx as h => ∀ (d : Cn) (σ : St), d.X = c.X → Ext c d → RepH K d h → RepS K ct d as σ → D.nx σ d.H
  | .rt a h => ∀ (d : Cn) (v : V), d.X = c.X → Ext c d → RepH K d h → Rep K d a v → D.rt v d.H
  | .bk as h => ∀ (d : Cn) (σ : St), d.X = c.X → Ext c d → RepH K d h → RepS K ct d as σ → D.bk σ d.H
  | .ct as h => ∀ (d : Cn) (σ : St), d.X = c.X → Ext c d → RepH K d h → RepS K ct d as σ → D.ct σ d.H
  | .ex e as h => ∀ (d : Cn) (σ : St) (cls : Value) (od : Option Addr), d.X = c.X → Ext c d → RepH K d h → RepS K ct d as σ → RepX K ct d cls od e → W cls od σ d.H
  | .no => False
theorem PostS.mono {K : Fg} {ct : Ct} {W : WX} {D : Ends} {c d : Cn} {r : RS} (hx : d.X = c.X) (e : Ext c d) (h : PostS K ct W D c r) : PostS K ct W D d r := by
  cases r with
  | nx as h' => exact fun f σ x1 e1 r1 q1 => h f σ (x1.trans hx) (e.trans e1) r1 q1
  | rt a h' => exact fun f σ x1 e1 r1 q1 => h f σ (x1.trans hx) (e.trans e1) r1 q1
  | bk as h' => exact fun f σ x1 e1 r1 q1 => h f σ (x1.trans hx) (e.trans e1) r1 q1
  | ct as h' => exact fun f σ x1 e1 r1 q1 => h f σ (x1.trans hx) (e.trans e1) r1 q1
  | ex x as h' => exact fun f σ cls od x1 e1 r1 s1 q1 => h f σ cls od (x1.trans hx) (e.trans e1) r1 s1 q1
  | no => exact h
def sM (K : Fg) (ct : Ct) (W : WX) (m : Mi.S) : TS := fun D σ H => ∃ (c : Cn) (h : AH) (as : AS), c.H = H ∧ RepH K c h ∧ RepS K ct c as σ ∧ PostS K ct W D c (m as h)
theorem PostS.pk {K : Fg} {ct : Ct} {W : WX} {D : Ends} {c : Cn} {as : AS} {σ : St} {α : Type} {f : α → AH → RS} (rs : RepS K ct c as σ) : Pk K ct W σ c (fun c (r : Res α) => PostS K ct W D c (r.st as f)) :=
  ⟨fun _ _ hx e h => PostS.mono hx e h, fun _ _ h d cls od x1 e1 r1 q1 => h d σ cls od x1 e1 r1 (rs.ext e1) q1, fun h => h⟩
/-- a statement's expression, then the rest -/
theorem st_bind {K : Fg} {ct : Ct} {W : WX} {α β : Type} {R : Rl α β} {m : AS → AH → Res α} {D : Ends} {c : Cn} {h : AH} {as : AS} {σ : St} {f : α → AH → RS} {Q : β → Hp → Prop} (rh : RepH K c h) (rs : RepS K ct c as σ) (hp : PostS K ct W D c ((m as h).st as f))
    (k : ∀ (d : Cn) (h1 : AH) (a : α) (b : β), d.X = c.X → Ext c d → RepH K d h1 → RepS K ct d as σ → R d a b → PostS K ct W D d (f a h1) → Q b d.H) : tM K ct W R m σ c.H Q := by
  refine ⟨c, h, as, rfl, rh, rs, ?_⟩
  cases e : m as h with
  | ok a h1 =>
    rw [e] at hp
    exact fun d b hx e1 r1 q1 => k d h1 a b hx e1 r1 (rs.ext e1) q1 (PostS.mono hx e1 hp)
  | ex x h1 =>
    rw [e] at hp
    exact fun d cls od hx e1 r1 q1 => hp d σ cls od hx e1 r1 (rs.ext e1) q1
  | no =>
    rw [e] at hp
    exact hp.elim
section
variable (ct : Ct) (X : Cx) (W : WX)
abbrev QS (st : Stmt) (m : Mi.S) : Prop := PS X st (sM X.K ct W m)
abbrev QSs (st : List Stmt) (m : Mi.S) : Prop := PSs X st (sM X.K ct W m)
end
/-- targets -/
def PostG (K : Fg) (ct : Ct) (Q : St → Hp → Prop) (c : Cn) : Option (AS × AH) → Prop
  | some (as, h) => ∀ (d : Cn) (σ : St), d.X = c.X → Ext c d → RepH K d h → RepS K ct d as σ → Q σ d.H
  | none => False
def gM (K : Fg) (ct : Ct) (m : Mi.G) : TG := fun v σ H Q => ∃ (c : Cn) (h : AH) (as : AS) (a : AV), c.H = H ∧ RepH K c h ∧ RepS K ct c as σ ∧ Rep K c a v ∧ PostG K ct Q c (m a as h)
def gsM (K : Fg) (ct : Ct) (ms : List Mi.G) : TGs := fun vs σ H Q => ∃ (c : Cn) (h : AH) (as : AS) (al : List AV), c.H = H ∧ RepH K c h ∧ RepS K ct c as σ ∧ RepL K c al vs ∧ PostG K ct Q c (Mi.gAll ms al as h)
theorem PostG.mono {K : Fg} {ct : Ct} {Q : St → Hp → Prop} {c d : Cn} {r : Option (AS × AH)} (hx : d.X = c.X) (e : Ext c d) (h : PostG K ct Q c r) : PostG K ct Q d r := by
  match r with
  | some (as, h') => exact fun f σ x1 e1 r1 q1 => h f σ (x1.trans hx) (e.trans e1) r1 q1
  | none => exact h
section
variable (ct : Ct) (X : Cx)
abbrev QG (e : Expr) (m : Mi.G) : Prop := PG X e (gM X.K ct m)
abbrev QGs (e : List Expr) (ms : List Mi.G) : Prop := PGs X e (gsM X.K ct ms)
end
section
variable {ct : Ct} {X : Cx} {W : WX} {a b e : Expr} {es : List Expr} {ma mb mc me : Mi.E} {pos pos' : Pos}
theorem qg_nm {i : Nat} {x : Str} (hN : X.N.Nodup) (hi : X.N[i]? = some x) (hx : Loc X.env.scope x) (hf : X.fn x = true ∨ X.env.scope.names.lookup x = some .local := by first | exact .inl rfl | exact .inr rfl | assumption) (hk : ct.ok i = true := by rfl) : QG ct X (.Name x pos) (Mi.gNm i) :=
  PG.imp (pg_name hN hi hx hf) fun v σ H Q ⟨c, h, as, a, e, rh, rs, r, q⟩ => by
    subst e
    exact q c _ rfl (.refl c) rh (rs.set i hk r)
theorem qgs_nil : QGs ct X [] [] := PGs.imp pgs_nil fun vs σ H Q ⟨c, h, as, al, e, rh, rs, r, q⟩ => by
  subst e
  cases al with
  | nil =>
    rw [repL_nil] at r
    exact ⟨r, q c _ rfl (.refl c) rh rs⟩
  | cons _ _ => exact q.elim
theorem qgs_cons {mg : Mi.G} {ms : List Mi.G} (h1 : QG ct X e mg) (h2 : QGs ct X es ms) (hs : (assignEach (e :: es) X.env).map (·.2) = assign e X.env :: (assignEach es X.env).map (·.2) := by rfl) : QGs ct X (e :: es) (mg :: ms) :=
  PGs.imp (pgs_cons h1 h2 hs) fun vs σ H Q ⟨c, h, as, al, e, rh, rs, r, q⟩ => by
    subst e
    cases al with
    | nil => exact q.elim
    | cons x xs =>
      rw [repL_cons] at r
      obtain ⟨v, w, rfl, r1, r2⟩ := r
      refine ⟨v, w, rfl, c, h, as, x, rfl, rh, rs, r1, ?_⟩
      unfold Mi.gAll at q
      split at q
      · rename_i s1 h1 e1
        rw [e1]
        exact fun d σ1 hx e2 rh1 rs1 => ⟨d, h1, s1, xs, rfl, rh1, rs1, RepL.ext e2 _ r2, q.mono hx e2⟩
      · exact q.elim
theorem pg_or {t u : TG} (h1 : PG X e t) (h2 : PG X e u) : PG X e (fun v σ H Q => t v σ H Q ∨ u v σ H Q) := ⟨fun pins s σ H v w Q I r h => h.elim (h1.run pins s σ H v w Q I r) (h2.run pins s σ H v w Q I r)⟩
theorem qg_tp {k : Nat} {ms : List Mi.G} (hc : X.calm = true) (h : QGs ct X es ms) (hn : (assignEach es X.env).length = ms.length := by rfl) (hst : (assignEach es X.env).findIdx? (·.1) = none := by rfl) : QG ct X (.Tuple es k pos) (Mi.gTp ms) :=
  PG.imp (pg_or (pg_tup hc h hn hst) (pg_lst hc h hn hst)) fun v σ H Q ⟨c, h, as, a, e, rh, rs, r, q⟩ => by
    subst e
    have len : ∀ (ms : List Mi.G) (xs : List AV) (as : AS) (h : AH), PostG X.K ct Q c (Mi.gAll ms xs as h) → xs.length = ms.length := by
      intro ms
      induction ms with
      | nil =>
        intro xs as h q
        cases xs with
        | nil => rfl
        | cons _ _ => exact q.elim
      | cons g gs ih =>
        intro xs as h q
        cases xs with
        | nil => exact q.elim
        | cons x xs =>
          unfold Mi.gAll at q
          split at q
          · simp [ih xs _ _ q]
          · exact q.elim
    unfold Mi.gTp at q
    split at q
    · rename_i xs
      rw [rep_tup] at r
      obtain ⟨p, vs, rfl, e2, e3⟩ := r
      exact .inl ⟨p, vs, rfl, .inl (.inl e2), by rw [← e3.length]; exact len _ _ _ _ q, c, h, as, xs, rfl, rh, rs, e3, q⟩
    · split at q
      · rename_i xs e1
        obtain ⟨p, vs, rfl, e2, e3⟩ := lst_at rh r e1
        exact .inr ⟨p, vs, rfl, .inl (.inl e2), by rw [← e3.length]; exact len _ _ _ _ q, c, h, as, xs, rfl, rh, rs, e3, q⟩
      · exact q.elim
/-! blocks -/
variable {s t : Mi.S} {st : Stmt} {rest : List Stmt}
theorem qss_nil : QSs ct X W [] Mi.sNx := PSs.imp pss_nil fun D σ H ⟨c, h, as, e, rh, rs, q⟩ => by
  subst e
  exact q c σ rfl (.refl c) rh rs
theorem qss_one (h : QS ct X W st s) : QSs ct X W [st] s := pss_one h
theorem qss_cons (h1 : QS ct X W st s) (h2 : QSs ct X W rest t) : QSs ct X W (st :: rest) (Mi.sSeq s t) := PSs.imp (pss_cons h1 h2) fun D σ H ⟨c, h, as, e, rh, rs, q⟩ => by
  subst e
  refine ⟨c, h, as, rfl, rh, rs, ?_⟩
  unfold Mi.sSeq at q
  cases z : s as h with
  | nx as1 h1 =>
    rw [z] at q
    exact fun d σ1 hx e1 rh1 rs1 => ⟨d, h1, as1, rfl, rh1, rs1, PostS.mono hx e1 q⟩
  | rt v h1 => rw [z] at q; exact q
  | bk as1 h1 => rw [z] at q; exact q
  | ct as1 h1 => rw [z] at q; exact q
  | ex x as1 h1 => rw [z] at q; exact q
  | no => rw [z] at q; exact q
theorem qs_pass : QS ct X W (.Pass pos) Mi.sNx := PS.imp ps_pass fun D σ H ⟨c, h, as, e, rh, rs, q⟩ => by
  subst e
  exact q c σ rfl (.refl c) rh rs
theorem qs_break : QS ct X W (.Break pos) Mi.sBk := PS.imp ps_break fun D σ H ⟨c, h, as, e, rh, rs, q⟩ => by
  subst e
  exact q c σ rfl (.refl c) rh rs
theorem qs_continue : QS ct X W (.Continue pos) Mi.sCt := PS.imp ps_continue fun D σ H ⟨c, h, as, e, rh, rs, q⟩ => by
  subst e
  exact q c σ rfl (.refl c) rh rs
theorem qs_expr (he : QE ct X W e me) (hs : swapsWith e none pos.line X.env = pure false := by rfl) : QS ct X W (.Expr e pos) (Mi.sDrop me) := PS.imp (ps_expr he hs) fun D σ H ⟨c, h, as, e, rh, rs, q⟩ => by
  subst e
  exact st_bind rh rs q fun d h1 a v hx e1 rh1 rs1 r1 q1 => q1 d σ rfl (.refl d) rh1 rs1
theorem qs_ret (he : QE ct X W e me) : QS ct X W (.Return (some e) pos) (Mi.sRet me) := PS.imp (ps_ret he) fun D σ H ⟨c, h, as, e, rh, rs, q⟩ => by
  subst e
  exact st_bind rh rs q fun d h1 a v hx e1 rh1 rs1 r1 q1 => q1 d v rfl (.refl d) rh1 r1
theorem qs_retN : QS ct X W (.Return none pos) Mi.sRetN := PS.imp ps_retN fun D σ H ⟨c, h, as, e, rh, rs, q⟩ => by
  subst e
  exact q c .non rfl (.refl c) rh (by rw [rep_non])
theorem qs_if {c : Expr} {a b : List Stmt} {tc : Mi.T} (hc : QT ct X W c tc) (ha : QSs ct X W a s) (hb : QSs ct X W b t) : QS ct X W (.If c a b pos) (Mi.sIf tc s t) := PS.imp (ps_if hc ha hb) fun D σ H ⟨c, h, as, e, rh, rs, q⟩ => by
  subst e
  refine st_bind rh rs q fun d h1 a v hx e1 rh1 rs1 r1 q1 => ?_
  cases r1
  cases a with
  | true => exact ⟨d, h1, as, rfl, rh1, rs1, q1⟩
  | false => exact ⟨d, h1, as, rfl, rh1, rs1, q1⟩
theorem use_asg {K : Fg} {mg : Mi.G} {D : Ends} {σ : St} {H : Hp} (h : sM K ct W (Mi.sAsg me mg) D σ H) : tM K ct W (RE K) me σ H fun x H1 => gM K ct mg x σ H1 D.nx := by
  obtain ⟨c, h, as, e, rh, rs, q⟩ := h
  subst e
  refine st_bind rh rs q fun d h1 a v hx e1 rh1 rs1 r1 q1 => ⟨d, h1, as, a, rfl, rh1, rs1, r1, ?_⟩
  cases z : mg a as h1 with
  | none => rw [z] at q1; exact q1.elim
  | some p => rw [z] at q1; exact q1
theorem qs_asg {tg : Expr} {mg : Mi.G} (he : QE ct X W e me) (hg : QG ct X tg mg) (hs : swapsWithSole [tg] e pos.line X.env = pure false := by rfl) (hw : swappedStores [tg] e X.env = pure none := by rfl)
    (h1 : (assignEach [tg] X.env).map (·.2) = [assign tg X.env] := by rfl) : QS ct X W (.Assign [tg] e pos) (Mi.sAsg me mg) := PS.imp (ps_asg he hg hs hw h1) fun D σ H h => use_asg h
/-- name = e -/
theorem qs_set {i : Nat} {x : Str} (hN : X.N.Nodup) (hi : X.N[i]? = some x) (hx : Loc X.env.scope x) (he : QE ct X W e me) (hs : swapsWith e (some (.Name x pos')) pos.line X.env = pure false := by rfl) (hf : X.fn x = true ∨ X.env.scope.names.lookup x = some .local := by first | exact .inl rfl | exact .inr rfl | assumption) (hk : ct.ok i = true := by rfl) :
    QS ct X W (.Assign [.Name x pos'] e pos) (Mi.sAsg me (Mi.gNm i)) := PS.imp (ps_set hN hi hx he hs hf) fun D σ H ⟨c, h, as, e, rh, rs, q⟩ => by
  subst e
  exact st_bind rh rs q fun d h1 a v hx e1 rh1 rs1 r1 q1 => q1 d _ rfl (.refl d) rh1 (rs1.set i hk r1)
theorem qs_par {i j : Nat} {x y : Str} {px py pt : Pos} {kt k2 pt2} (hc : X.calm = true) (hN : X.N.Nodup) (hi : X.N[i]? = some x) (hj : X.N[j]? = some y) (hij : i ≠ j)
    (hx : X.env.scope.names.lookup x = some .local) (hy : X.env.scope.names.lookup y = some .local) (ha : QE ct X W a ma) (hb : QE ct X W b mb)
    (hw : swappedStores [.Tuple [.Name x px, .Name y py] kt pt] (.Tuple [a, b] k2 pt2) X.env = pure (some [x, y]))
    (hs : swapsWithSole [.Tuple [.Name x px, .Name y py] kt pt] (.Tuple [a, b] k2 pt2) pos.line X.env = pure false := by rfl)
    (hs1 : starEach (a :: [b]) X.env = (false, eval a X.env) :: starEach [b] X.env := by rfl) (hs2 : starEach [b] X.env = (false, eval b X.env) :: starEach [] X.env := by rfl) (hki : ct.ok i = true := by rfl) (hkj : ct.ok j = true := by rfl) :
    QS ct X W (.Assign [.Tuple [.Name x px, .Name y py] kt pt] (.Tuple [a, b] k2 pt2) pos) (Mi.sPar i j ma mb) := PS.imp (ps_par hc hN hi hj hij hx hy (pa_cons ha (pa_cons hb pa_nil hs2) hs1) hw hs) fun D σ H ⟨c, h, as, e, rh, rs, q⟩ => by
  subst e
  refine tM_bind (PostS.pk rs) rh rs q fun d h1 a v hx e1 rh1 rs1 r1 q1 => ?_
  refine tM_bind (PostS.pk rs1) rh1 rs1 q1 fun d2 h2 b w hx2 e2 rh2 rs2 r2 q2 => ?_
  exact ⟨v, w, rfl, q2 d2 _ rfl (.refl d2) rh2 ((rs2.set i hki (r1.ext e2)).set j hkj r2)⟩
theorem qs_aug {i : Nat} {x : Str} {op : Operator} {f : AV → AV → Mi.M AV} (hN : X.N.Nodup) (hi : X.N[i]? = some x) (hx : Loc X.env.scope x) (he : QE ct X W e me) (ho : OpR X (inplaceOp op) (oM2 X.K f)) (hn : Nx2 f) (hf : X.fn x = true ∨ X.env.scope.names.lookup x = some .local := by first | exact .inl rfl | exact .inr rfl | assumption) (hk : ct.ok i = true := by rfl) :
    QS ct X W (.AugAssign (.Name x pos') op e pos) (Mi.sAug i f me) := PS.imp (ps_aug hN hi hx he (fun pins s σ H x y v u Q I rx ry h => ho pins s σ H x y v u Q I rx ry h) hf) fun D σ H ⟨c, h, as, e, rh, rs, q⟩ => by
  subst e
  unfold Mi.sAug at q
  split at q
  · rename_i v0 hv
    obtain ⟨w0, h1, h2⟩ := rs.2.1 i v0 hk hv
    refine ⟨w0, h1, ?_⟩
    refine tM_bind (PostS.pk rs) rh rs q fun d h1 a v hx e1 rh1 rs1 r1 q1 => ?_
    refine ⟨d, h1, v0, a, rfl, rh1, h2.ext e1, r1, ?_⟩
    cases z : f v0 a h1 with
    | ok b h3 =>
      rw [z] at q1
      exact fun d2 w hx2 e2 rh2 r2 => q1 d2 _ hx2 e2 rh2 ((rs1.ext e2).set i hk r2)
    | ex x h3 => exact absurd z (hn _ _ _ _ _)
    | no => rw [z] at q1; exact q1.elim
  · exact q.elim
theorem PostS.oSt {K : Fg} {ct : Ct} {W : WX} {D : Ends} {c : Cn} {as : AS} {σ : St} {o : Option AH} (rs : RepS K ct c as σ) (q : PostS K ct W D c (Mi.oSt as o)) : PVs K c (fun H' => D.nx σ H') o := by
  cases o with
  | some h => exact fun d hx e1 rh1 => q d σ hx e1 rh1 (rs.ext e1)
  | none => exact q
/-- o[i] = v -/
theorem qs_setIx {o i : Expr} {mo mi mv : Mi.E} {value : Expr} (hu : X.A.units + 1 < cLine) (hv : QE ct X W value mv) (ho : QE ct X W o mo) (hi : QE ct X W i mi)
    (ha : ∀ v, assign (.Subscript o i pos') X.env v = (do
      let ov ← holding [v] (eval o X.env)
      let iv ← holding [v, ov] (eval i X.env)
      standAt pos'
      holding [v, ov, iv] (setItem ov iv v)
      release [v, ov, iv] []) := by intro _; rfl)
    (hs : swapsWithSole [.Subscript o i pos'] value pos.line X.env = pure false := by rfl) (hw : swappedStores [.Subscript o i pos'] value X.env = pure none := by rfl)
    (h1 : (assignEach [.Subscript o i pos'] X.env).map (·.2) = [assign (.Subscript o i pos') X.env] := by rfl) : QS ct X W (.Assign [.Subscript o i pos'] value pos) (Mi.sSet mv mo mi) :=
  PS.imp (ps_asg hv (pg_sub ho hi (set_M hu) ha) hs hw h1) fun D σ H ⟨c, h, as, e, rh, rs, q⟩ => by
    subst e
    refine tM_bind (PostS.pk rs) rh rs q fun d h1 a v hx e1 rh1 rs1 r1 q1 => ?_
    refine tM_bind (PostS.pk rs1) rh1 rs1 q1 fun d2 h2 b w hx2 e2 rh2 rs2 r2 q2 => ?_
    refine tM_bind (PostS.pk rs2) rh2 rs2 q2 fun d3 h3 k z hx3 e3 rh3 rs3 r3 q3 => ?_
    exact ⟨d3, h3, b, k, a, rfl, rh3, r2.ext e3, r3, (r1.ext e2).ext e3, PostS.oSt rs3 q3⟩
/-- o[i], by values, for o[i] op= e -/
theorem get_M (hu : X.A.units + 1 < cLine) : PGet X (oM2 X.K Mi.oIx) := by
  intro pins s σ H x y v u Q I rx ry ⟨c, h, ax, ay, e, rh, r1, r2, q⟩
  subst e
  have hn63 := line63
  have lst : ∀ (xs : List AV) (vs : List V) (p : Addr) (i : Int), x = .ref p → SqL X.K c.H p vs → RepL X.K c xs vs → ay = .int i → PV X.K c Q (match Mi.atI xs i with | some v => .ok v h | none => .no) →
      wpAny (model X.prog X.w) X.A (getItem v u) (EP X pins σ Q) X.xe s := by
    intro xs vs p i ex hsq hl ei q0
    subst ex ei
    rw [rep_int] at r2
    subst r2
    cases rx
    obtain ⟨t, rfl⟩ := ry
    split at q0
    · rename_i w e
      obtain ⟨z, h1, h2⟩ := hl.atI e
      obtain ⟨its, r, pl, hz⟩ := I.list hsq
      obtain ⟨j, k1, k2, k3, k4, k5⟩ := atI_get h1
      obtain ⟨w', ew, rw'⟩ := r.get k2
      have hlen := r.length
      have fin : EP X pins σ Q w' s := ⟨z, _, I, rw', q0.here rh h2⟩
      by_cases h0 : 0 ≤ i
      · have hj : i.toNat = j := by
          rw [seqIndex_of h0 k5] at k1
          exact Option.some.inj k1
        exact wpAny_getItem_list pl.isList h0 (by omega) (by rw [hj]; simpa using ew) fin
      · have hj : (i + (its.toArray.size : Int)).toNat = j := by
          rw [seqIndex_neg (by omega) k4] at k1
          rw [List.size_toArray, ← hlen]
          exact Option.some.inj k1
        exact wpAny_getItem_list_neg pl.isList (by omega) (by rw [List.size_toArray] <;> omega) (by omega) (by rw [hj]; simpa using ew) fin
    · exact q0.elim
  have tup : ∀ (xs : List AV) (vs : List V) (p : Addr) (i : Int), x = .ref p → SqT X.K c.H p vs → RepL X.K c xs vs → ay = .int i → PV X.K c Q (match Mi.atI xs i with | some v => .ok v h | none => .no) →
      wpAny (model X.prog X.w) X.A (getItem v u) (EP X pins σ Q) X.xe s := by
    intro xs vs p i ex hsq hl ei q0
    subst ex ei
    rw [rep_int] at r2
    subst r2
    cases rx
    obtain ⟨t, rfl⟩ := ry
    split at q0
    · rename_i w e
      obtain ⟨z, h1, h2⟩ := hl.atI e
      obtain ⟨its, r, pl, hz⟩ := I.tuple hsq
      obtain ⟨j, k1, k2, k3, k4, k5⟩ := atI_get h1
      obtain ⟨w', ew, rw'⟩ := r.get k2
      have hlen := r.length
      have fin : EP X pins σ Q w' s := ⟨z, _, I, rw', q0.here rh h2⟩
      exact getItem_tuple (j := j) pl (by omega) (by omega) (by rw [List.size_toArray, ← hlen]; exact k1) (by simpa using ew) fin
    · exact q0.elim
  cases ax with
  | str t =>
    cases ay with
    | int i =>
      rw [rep_str] at r1
      rw [rep_int] at r2
      subst r1 r2
      obtain ⟨t', rfl⟩ := rx
      obtain ⟨t2, rfl⟩ := ry
      unfold Mi.oIx at q
      dsimp only at q
      split at q
      · rename_i hl
        rw [← line_eq] at hl
        split at q
        · rename_i d e
          rw [atI_eq] at e
          obtain ⟨j, k1, k2, k3, k4, k5⟩ := atI_get e
          refine getItem_str (c := d) ?_ ?_ ⟨.str ⟨#[d]⟩, _, I.tok _, ⟨_, rfl⟩, q.here rh (by rw [rep_str])⟩
          · have e1 : decide (i < -(2 ^ 63 : Int)) = false := decide_eq_false (by omega)
            have e2 : decide (i ≥ 2 ^ 63) = false := decide_eq_false (by omega)
            rw [e1, e2, Bool.or_false]
          · rw [str_len, k1]
            simpa using k2
        · exact q.elim
      · exact q.elim
    | _ => exact q.elim
  | tup xs =>
    cases ay with
    | int i =>
      rw [rep_tup] at r1
      obtain ⟨p, vs, e1, e2, e3⟩ := r1
      exact tup xs vs p i e1 (.inl (.inl e2)) e3 rfl q
    | _ => exact q.elim
  | lst xs =>
    cases ay with
    | int i =>
      rw [rep_lst] at r1
      obtain ⟨p, vs, e1, e2, e3⟩ := r1
      exact lst xs vs p i e1 e2.sq e3 rfl q
    | _ => exact q.elim
  | scr t xs =>
    cases ay with
    | int i =>
      obtain ⟨p, vs, e1, e2, e3⟩ := seq_at rh r1 (xs := xs) rfl
      rcases e2 with e2 | e2
      · exact lst xs vs p i e1 e2 e3 rfl q
      · exact tup xs vs p i e1 e2 e3 rfl q
    | _ => exact q.elim
  | cel n =>
    unfold Mi.oIx at q
    dsimp only at q
    rw [rep_cel] at r1
    obtain ⟨p, e1, e2⟩ := r1
    split at q
    · rename_i xs hn
      obtain ⟨vs, e3, e4⟩ := cell_lst rh e2 hn
      split at q
      · exact lst xs vs p _ e1 (.inl (.inl e3)) e4 rfl q
      · exact q.elim
    · rename_i t kvs hn
      split at q
      · rename_i hk
        rcases dget_at rh e2 hn hk r2 with ⟨h1, h2⟩ | ⟨a, w, h1, h2, h3⟩
        · rw [h1] at q
          exact q.elim
        · rw [h1] at q
          subst e1
          cases rx
          exact d_getItem hu I h2 ry fun w' s' I' rw' => ⟨w, _, I', rw', q.here rh h3⟩
      · exact q.elim
    · exact q.elim
  | non => exact q.elim
  | bl b => exact q.elim
  | int i => exact q.elim
  | xcp => exact q.elim
theorem Pk.op2 {K : Fg} {ct : Ct} {W : WX} {γ : Type} {σ : St} {c : Cn} {h : AH} {P : Cn → Res γ → Prop} {g : AV → AV → Mi.M AV} {x y : AV} {v w : V} {f : AV → AH → Res γ} {Q : VK} (pk : Pk K ct W σ c P) (hn : Nx2 g) (rh : RepH K c h) (rx : Rep K c x v) (ry : Rep K c y w) (hp : P c ((g x y h).bind f))
    (k : ∀ (d : Cn) (h1 : AH) (a : AV) (b : V), d.X = c.X → Ext c d → RepH K d h1 → Rep K d a b → P d (f a h1) → Q b d.H) : oM2 K g v w c.H Q := by
  refine ⟨c, h, x, y, rfl, rh, rx, ry, ?_⟩
  cases z : g x y h with
  | ok a h1 =>
    rw [z] at hp
    exact fun d b hx e1 rh1 r1 => k d h1 a b hx e1 rh1 r1 (pk.mono d _ hx e1 hp)
  | ex e h1 => exact absurd z (hn _ _ _ _ _)
  | no =>
    rw [z] at hp
    exact (pk.no hp).elim
/-- o[i] op= e -/
theorem qs_augIx {o i : Expr} {mo mi : Mi.E} {op : Operator} {f : AV → AV → Mi.M AV} (hu : X.A.units + 1 < cLine) (ho : QE ct X W o mo) (hi : QE ct X W i mi) (he : QE ct X W e me) (hp : OpR X (inplaceOp op) (oM2 X.K f)) (hn : Nx2 f)
    (ha : ∀ ov iv new, augStore i ov iv new = (do holding [new, ov, iv] (setItem ov iv new); release [new, ov, iv] []; pure .next) := by intros; rfl) : QS ct X W (.AugAssign (.Subscript o i pos') op e pos) (Mi.sAugS f mo mi me) :=
  PS.imp (ps_augS ho hi (get_M hu) he (fun pins s σ H x y v u Q I rx ry h => hp pins s σ H x y v u Q I rx ry h) (set_M hu) ha) fun D σ H ⟨c, h, as, e, rh, rs, q⟩ => by
    subst e
    refine tM_bind (PostS.pk rs) rh rs q fun d h1 a v hx e1 rh1 rs1 r1 q1 => ?_
    refine tM_bind (PostS.pk rs1) rh1 rs1 q1 fun d2 h2 b w hx2 e2 rh2 rs2 r2 q2 => ?_
    refine Pk.op2 (PostS.pk rs2) nx_ix rh2 (r1.ext e2) r2 q2 fun d3 h3 x3 v3 hx3 e3 rh3 r3 q3 => ?_
    have rs3 := rs2.ext e3
    refine tM_bind (PostS.pk rs3) rh3 rs3 q3 fun d4 h4 x4 v4 hx4 e4 rh4 rs4 r4 q4 => ?_
    refine Pk.op2 (PostS.pk rs4) hn rh4 (r3.ext e4) r4 q4 fun d5 h5 x5 v5 hx5 e5 rh5 r5 q5 => ?_
    exact ⟨d5, h5, a, b, x5, rfl, rh5, (((r1.ext e2).ext e3).ext e4).ext e5, ((r2.ext e3).ext e4).ext e5, r5, PostS.oSt (rs4.ext e5) q5⟩
end
end MiS

end

section
set_option maxHeartbeats 4000000
namespace MiS
open PySem PySem.Spec L2
open PyProof.Rows hiding St
open Mi (AV HC AH AX Res AS RS)

/-! ### what is walked -/
def nth (h : AH) : Mi.It → Nat → Option AV
  | .seq xs, i => xs[i]?
  | .live n, i => match h[n]? with
    | some (.lst xs) => xs[i]?
    | _ => none
def wok (h : AH) : Mi.It → Prop
  | .seq _ => True
  | .live n => ∃ xs, h[n]? = some (.lst xs)
def Walk (K : Fg) (J : L2.It) (ai : Mi.It) (c0 : Cn) : Prop := ∀ (i : Nat) (c : Cn) (h : AH), Ext c0 c → RepH K c h → wok h ai →
  (nth h ai i = none → J.stop i c.H) ∧ ∀ a, nth h ai i = some a → J.go i c.H ∧ ∀ x H', J.yld i c.H x H' → ∃ d : Cn, d.X = c.X ∧ d.H = H' ∧ Ext c d ∧ RepH K d h ∧ Rep K d a x
abbrev RI (K : Fg) : Rl Mi.It L2.It := fun c a J => Walk K J a c
section
variable {K : Fg} {c0 : Cn}
theorem walk_sq {xs : List AV} {vs : List V} {p : Addr} (hs : ∀ c, Ext c0 c → SqL K c.H p vs) (r : RepL K c0 xs vs) : Walk K (Itl K p) (.seq xs) c0 := by
  intro i c h e rh _
  refine ⟨fun hn => ⟨vs, hs c e, ?_⟩, fun a ha => ?_⟩
  · rw [← r.length]
    exact List.getElem?_eq_none_iff.mp hn
  · obtain ⟨v, hv, rv⟩ := r.get ha
    refine ⟨⟨vs, v, hs c e, hv⟩, fun x H' y => ?_⟩
    obtain ⟨rfl, y⟩ := y
    have ex : x = v := Option.some.inj ((y vs (hs c e)).symm.trans hv)
    subst ex
    exact ⟨c, rfl, rfl, .refl c, rh, rv.ext e⟩
theorem walk_tp {xs : List AV} {vs : List V} {p : Addr} (hs : ∀ c, Ext c0 c → SqT K c.H p vs) (r : RepL K c0 xs vs) : Walk K (Itt K p) (.seq xs) c0 := by
  intro i c h e rh _
  refine ⟨fun hn => ⟨vs, hs c e, ?_⟩, fun a ha => ?_⟩
  · rw [← r.length]
    exact List.getElem?_eq_none_iff.mp hn
  · obtain ⟨v, hv, rv⟩ := r.get ha
    refine ⟨⟨vs, v, hs c e, hv⟩, fun x H' y => ?_⟩
    obtain ⟨rfl, y⟩ := y
    have ex : x = v := Option.some.inj ((y vs (hs c e)).symm.trans hv)
    subst ex
    exact ⟨c, rfl, rfl, .refl c, rh, rv.ext e⟩
theorem walk_live {n : Nat} {p : Addr} (hp : c0.ρ[n]? = some p) : Walk K (Itl K p) (.live n) c0 := by
  intro i c h e rh hw
  obtain ⟨xs, hn⟩ := hw
  have hp' : c.ρ[n]? = some p := by
    obtain ⟨m, em, _⟩ := e.app
    rw [em, List.getElem?_append_left (List.getElem?_eq_some_iff.mp hp).1]
    exact hp
  obtain ⟨vs, h1, r⟩ := cell_lst rh hp' hn
  have hs : SqL K c.H p vs := .inl (.inl h1)
  have en : nth h (.live n) i = xs[i]? := by
    show (match h[n]? with | some (.lst xs) => xs[i]? | _ => none) = _
    rw [hn]
  rw [en]
  refine ⟨fun hn => ⟨vs, hs, ?_⟩, fun a ha => ?_⟩
  · rw [← r.length]
    exact List.getElem?_eq_none_iff.mp hn
  · obtain ⟨v, hv, rv⟩ := r.get ha
    refine ⟨⟨vs, v, hs, hv⟩, fun x H' y => ?_⟩
    obtain ⟨rfl, y⟩ := y
    have ex : x = v := Option.some.inj ((y vs hs).symm.trans hv)
    subst ex
    exact ⟨c, rfl, rfl, .refl c, rh, rv⟩
theorem walk_rng (lo : Int) (n : Nat) : Walk K (Itr lo n) (.seq (Mi.rng lo n)) c0 := by
  intro i c h e rh _
  have len : (Mi.rng lo n).length = n := by simp [Mi.rng]
  have get : ∀ i, i < n → (Mi.rng lo n)[i]? = some (.int (lo + (i : Int))) := fun i hi => by
    unfold Mi.rng
    rw [List.getElem?_map, List.getElem?_range hi]
    rfl
  refine ⟨fun hn => ?_, fun a ha => ?_⟩
  · have := List.getElem?_eq_none_iff.mp hn
    show n ≤ i
    omega
  · have hi : i < n := by
      have := (List.getElem?_eq_some_iff.mp ha).1
      omega
    have ha : (Mi.rng lo n)[i]? = some a := ha
    rw [get i hi] at ha
    cases ha
    refine ⟨hi, fun x H' y => ?_⟩
    obtain ⟨e1, e2⟩ := y
    subst e1 e2
    exact ⟨c, rfl, rfl, .refl c, rh, by rw [rep_int]⟩
theorem walk_str (s : List Nat) : Walk K (Its ⟨s.toArray⟩) (.seq (s.map fun c => .str [c])) c0 := by
  intro i c h e rh _
  have len : (⟨s.toArray⟩ : Str).cps.size = s.length := by simp
  refine ⟨fun hn => ?_, fun a ha => ?_⟩
  · have := List.getElem?_eq_none_iff.mp hn
    rw [List.length_map] at this
    show (⟨s.toArray⟩ : Str).cps.size ≤ i
    omega
  · have ha : (s.map fun c => AV.str [c])[i]? = some a := ha
    rw [List.getElem?_map] at ha
    obtain ⟨d, hd, rfl⟩ := Option.map_eq_some_iff.mp ha
    have hi := (List.getElem?_eq_some_iff.mp hd).1
    refine ⟨by show i < (⟨s.toArray⟩ : Str).cps.size; omega, fun x H' y => ?_⟩
    obtain ⟨e1, d', h1, e2⟩ := y
    subst e1 e2
    have h1 : s[i]? = some d' := by simpa using h1
    rw [hd] at h1
    cases h1
    exact ⟨c, rfl, rfl, .refl c, rh, by rw [rep_str]⟩
end
section
variable {ct : Ct} {X : Cx} {W : WX} {tg : Expr} {e : Expr} {ma mb me : Mi.E} {pos : Pos}
abbrev QI (ct : Ct) (X : Cx) (W : WX) (tg e : Expr) (m : Mi.I) : Prop := PI X tg e (tM X.K ct W (RI X.K) m)
/-- a list, a tuple, a text -/
def iSq (K : Fg) (tl : TE) : TI := fun σ H R => tl σ H fun x H1 => (∃ a, x = .ref a ∧ (∃ xs, SqL K H1 a xs) ∧ R (Itl K a) H1) ∨ (∃ a, x = .ref a ∧ (∃ xs, SqT K H1 a xs) ∧ R (Itt K a) H1) ∨ ∃ z, x = .str z ∧ R (Its z) H1
theorem pi_seqM {l : Expr} {tl : TE} (hl : PE X l tl) : PI X tg l (iSq X.K tl) := by
  refine ⟨fun pins s σ H R I h => ?_⟩
  refine thn (hl.run pins s σ H _ I h) fun v s1 ⟨x, H1, I1, r1, q1⟩ => ?_
  rcases q1 with ⟨a, rfl, ⟨xs, hq⟩, q⟩ | ⟨a, rfl, ⟨xs, hq⟩, q⟩ | ⟨z, rfl, q⟩
  · cases r1
    obtain ⟨its, rv, p, hz⟩ := I1.list hq
    refine wpAny_pyIter_list p.isList ?_
    refine ⟨s1.heap.objs.size, [s1.heap.objs.size], _, _, H1, rfl, I1.kept (t' := s1.toks) fun b o e => Heap.get?_push_of_some _ e, turn_list a _, ⟨_, Heap.get?_push_size _ rfl, rfl, rfl⟩, fun b hb => ?_, q⟩
    rw [List.mem_singleton.mp hb]
    exact I1.fpOk (Nat.le_refl _) (I1.hok.fresh (Nat.le_refl _))
  · cases r1
    obtain ⟨its, rv, p, hz⟩ := I1.tuple hq
    refine wpAny_pyIter_tuple (show s1.heap.IsTuple a its.toArray from p) ?_
    refine ⟨s1.heap.objs.size, [s1.heap.objs.size], _, _, H1, rfl, I1.kept (t' := s1.toks) fun b o e => Heap.get?_push_of_some _ e, turn_tuple a _, ⟨_, Heap.get?_push_size _ rfl, rfl, rfl⟩, fun b hb => ?_, q⟩
    rw [List.mem_singleton.mp hb]
    exact I1.fpOk (Nat.le_refl _) (I1.hok.fresh (Nat.le_refl _))
  · obtain ⟨t, rfl⟩ := r1
    cases ha : z.cps.all (· < 128)
    · exact wpAny_pyIter_wide ha (pi_one (tk := s1.toks) I1 _ (turn_str _ z t "str_iterator" (.inr rfl)) ⟨_, Heap.get?_push_size _ rfl, rfl, rfl⟩ q)
    · exact wpAny_pyIter_ascii ha (pi_one (tk := s1.toks) I1 _ (turn_str _ z t "str_ascii_iterator" (.inl rfl)) ⟨_, Heap.get?_push_size _ rfl, rfl, rfl⟩ q)
theorem qi_seq {l : Expr} (hl : QE ct X W l me) : QI ct X W tg l (Mi.iSeq me) := PI.imp (pi_seqM hl) fun σ H R ⟨c, h, as, e, rh, rs, q⟩ => by
  subst e
  refine tM_bind (P := fun c r => Post X.K ct W (RI X.K) c σ R r) Post.pk rh rs q fun d h1 a v hx e1 rh1 rs1 r1 q1 => ?_
  cases a with
  | tup xs =>
    obtain ⟨p, vs, rfl, e2, e3⟩ := rep_tup.mp r1
    exact .inr (.inl ⟨p, rfl, ⟨vs, .inl (.inl e2)⟩, q1 d _ rfl (.refl d) rh1 (walk_tp (fun c e => .inl (.inl (e.fix _ _ e2 trivial))) e3)⟩)
  | lst xs =>
    obtain ⟨p, vs, rfl, e2, e3⟩ := rep_lst.mp r1
    exact .inl ⟨p, rfl, ⟨vs, e2.sq⟩, q1 d _ rfl (.refl d) rh1 (walk_sq (fun c e => (e.ls e2).sq) e3)⟩
  | scr t xs =>
    cases t with
    | false =>
      obtain ⟨p, vs, rfl, e2, e3⟩ := rep_scr.mp r1
      exact .inl ⟨p, rfl, ⟨vs, e2.sq⟩, q1 d _ rfl (.refl d) rh1 (walk_sq (fun c e => (e.sc e2).sq) e3)⟩
    | true =>
      obtain ⟨p, vs, rfl, e2, e3⟩ := rep_scrT.mp r1
      exact .inr (.inl ⟨p, rfl, ⟨vs, .inr e2⟩, q1 d _ rfl (.refl d) rh1 (walk_tp (fun c e => .inr e2) e3)⟩)
  | str t =>
    have r1 := rep_str.mp r1
    subst r1
    exact .inr (.inr ⟨_, rfl, q1 d _ rfl (.refl d) rh1 (walk_str t)⟩)
  | cel n =>
    obtain ⟨p, rfl, e2⟩ := rep_cel.mp r1
    dsimp only at q1
    split at q1
    · rename_i xs hn
      obtain ⟨vs, e3, e4⟩ := cell_lst rh1 e2 hn
      exact .inl ⟨p, rfl, ⟨vs, .inl (.inl e3)⟩, q1 d _ rfl (.refl d) rh1 (walk_live e2)⟩
    · exact q1.elim
  | non => exact q1.elim
  | bl b => exact q1.elim
  | int i => exact q1.elim
  | xcp => exact q1.elim
theorem big_of {j : Int} (h : Mi.inBig j = true) : -(2 ^ 62) ≤ j ∧ j < 2 ^ 62 := by
  unfold Mi.inBig at h
  rw [decide_eq_true_iff] at h
  by_cases h0 : j = 0
  · subst h0
    decide
  · rw [Nat.log2_lt (by omega)] at h
    rw [show (2 : Nat) ^ 62 = 4611686018427387904 by decide] at h
    rw [show (2 : Int) ^ 62 = 4611686018427387904 by decide]
    omega
theorem qi_rng1 {a : Expr} {p : Pos} (hg : Gl X "range") (hm : X.mg "range" = none) (ha : QE ct X W a ma) (hs : starEach [a] X.env = [(false, eval a X.env)] := by rfl) (hs' : starEach (a :: []) X.env = (false, eval a X.env) :: starEach [] X.env := by rfl) : QI ct X W tg (.Call (.Name "range" p) [a] [] pos) (Mi.iRng1 ma) :=
  PI.imp (pi_range1 hg hm (pa_cons ha pa_nil hs') hs) fun σ H R ⟨c, h, as, e, rh, rs, q⟩ => by
    subst e
    refine tM_bind (P := fun c r => Post X.K ct W (RI X.K) c σ R r) Post.pk rh rs q fun d h1 a v hx e1 rh1 rs1 r1 q1 => ?_
    cases a with
    | int j =>
      have r1 := rep_int.mp r1
      subst r1
      dsimp only at q1
      split at q1
      · rename_i hb
        have hb := big_of hb
        exact ⟨j, rfl, hb.1, hb.2, q1 d _ rfl (.refl d) rh1 (walk_rng 0 j.toNat)⟩
      · exact q1.elim
    | _ => exact q1.elim
theorem qi_rng2 {a b : Expr} {p : Pos} (hg : Gl X "range") (hm : X.mg "range" = none) (ha : QE ct X W a ma) (hb : QE ct X W b mb) (hs : starEach [a, b] X.env = [(false, eval a X.env), (false, eval b X.env)] := by rfl) (hs2 : starEach [b] X.env = [(false, eval b X.env)] := by rfl)
    (hs3 : starEach (a :: [b]) X.env = (false, eval a X.env) :: starEach [b] X.env := by rfl) (hs4 : starEach (b :: []) X.env = (false, eval b X.env) :: starEach [] X.env := by rfl) : QI ct X W tg (.Call (.Name "range" p) [a, b] [] pos) (Mi.iRng2 ma mb) :=
  PI.imp (pi_range2 hg hm (pa_cons ha (pa_cons hb pa_nil hs4) hs3) hs hs2) fun σ H R ⟨c, h, as, e, rh, rs, q⟩ => by
    subst e
    refine tM_bind (P := fun c r => Post X.K ct W (RI X.K) c σ R r) Post.pk rh rs q fun d h1 a v hx e1 rh1 rs1 r1 q1 => ?_
    refine tM_bind (P := fun c r => Post X.K ct W (RI X.K) c σ R r) Post.pk rh1 rs1 q1 fun d2 h2 b w hx2 e2 rh2 rs2 r2 q2 => ?_
    cases a with
    | int i =>
      cases b with
      | int j =>
        have r1 := rep_int.mp r1
        have r2 := rep_int.mp r2
        subst r1 r2
        dsimp only at q2
        split at q2
        · rename_i hb
          split at q2
          · rename_i hb2
            have hb := big_of hb
            have hb2 := big_of hb2
            exact ⟨i, j, rfl, ⟨hb.1, hb.2, hb2⟩, q2 d2 _ rfl (.refl d2) rh2 (walk_rng i (j - i).toNat)⟩
          · exact q2.elim
        · exact q2.elim
      | _ => exact q2.elim
    | _ => cases b <;> exact q2.elim
end

/-! ### for -/
section
variable {ct : Ct} {X : Cx} {W : WX} {tg : Expr} {mi : Mi.I} {mg : Mi.G} {mb : Mi.S} {pos : Pos}
/-- behind a turn -/
theorem PostS.turn {K : Fg} {D : Ends} {c : Cn} {r : RS} {f : AS → AH → RS} {N : St → Hp → Prop}
    (q : PostS K ct W D c (match r with | .nx a h => f a h | .ct a h => f a h | .bk a h => .nx a h | r => r))
    (k : ∀ (a : AS) (h : AH) (d : Cn) (σ : St), d.X = c.X → Ext c d → RepH K d h → RepS K ct d a σ → PostS K ct W D d (f a h) → N σ d.H) : PostS K ct W { D with nx := N, ct := N, bk := D.nx } c r := by
  cases r with
  | nx a h => exact fun d σ hx e rh rs => k a h d σ hx e rh rs (PostS.mono hx e q)
  | ct a h => exact fun d σ hx e rh rs => k a h d σ hx e rh rs (PostS.mono hx e q)
  | bk a h => exact q
  | rt v h => exact q
  | ex x a h => exact q
  | no => exact q
theorem qs_for {iter : Expr} {body : List Stmt} (hp : PassesOwn (model X.prog X.w) X.A X.env X.xe) (hc : X.calm = true) (hi : QI ct X W tg iter mi) (hg : QG ct X tg mg) (hb : QSs ct X W body mb)
    (hs : ∀ x, foldedSetIterable iter X.env x = pure x := by intro _; rfl) : QS ct X W (.For tg iter body [] pos) (Mi.sFor mi mg mb) :=
  PS.imp (ps_for hp hc hi hg hb hs) fun D σ H ⟨c, h, as, e, rh, rs, q⟩ => by
    subst e
    refine st_bind rh rs q fun d h1 ai J hx e1 rh1 rs1 wk q1 => ?_
    cases ai with
    | seq xs =>
      refine ⟨fun i m σ' H' => m = xs.length - i ∧ i ≤ xs.length ∧ ∃ (c' : Cn) (h' : AH) (as' : AS), c'.X = d.X ∧ c'.H = H' ∧ Ext d c' ∧ RepH X.K c' h' ∧ RepS X.K ct c' as' σ' ∧ PostS X.K ct W D c' (Mi.forL mg mb (xs.drop i) as' h'), ⟨xs.length, by simp, Nat.zero_le _, d, h1, as, rfl, rfl, .refl d, rh1, rs1, q1⟩, ?_⟩
      rintro i m σ' H' ⟨rfl, hi, c', h', as', hx', rfl, e', rh', rs', q'⟩
      obtain ⟨w1, w2⟩ := wk i c' h' e' rh' trivial
      by_cases hlt : i < xs.length
      · have hn : nth h' (.seq xs) i = some xs[i] := List.getElem?_eq_getElem hlt
        obtain ⟨go, yl⟩ := w2 _ hn
        rw [List.drop_eq_getElem_cons hlt] at q'
        refine .inr ⟨go, fun σ2 H2 => ∃ m', m' < xs.length - i ∧ m' = xs.length - (i + 1) ∧ i + 1 ≤ xs.length ∧ ∃ (c2 : Cn) (h2 : AH) (as2 : AS), c2.X = d.X ∧ c2.H = H2 ∧ Ext d c2 ∧ RepH X.K c2 h2 ∧ RepS X.K ct c2 as2 σ2 ∧ PostS X.K ct W D c2 (Mi.forL mg mb (xs.drop (i + 1)) as2 h2), fun σ2 H2 n => n, fun x H2 y => ?_⟩
        obtain ⟨d2, hx2, rfl, e2, rh2, r2⟩ := yl x H2 y
        refine ⟨d2, h', as', _, rfl, rh2, rs'.ext e2, r2, ?_⟩
        unfold Mi.forL at q'
        split at q'
        · rename_i as3 h3 eg
          rw [eg]
          intro d3 σ3 hx3 e3 rh3 rs3
          refine ⟨d3, h3, as3, rfl, rh3, rs3, ?_⟩
          refine PostS.turn (PostS.mono hx3 e3 (PostS.mono hx2 e2 q')) fun a4 h4 d4 σ4 hx4 e4 rh4 rs4 q4 => ?_
          exact ⟨_, by omega, rfl, hlt, d4, h4, a4, ((hx4.trans hx3).trans hx2).trans hx', rfl, ((e'.trans e2).trans e3).trans e4, rh4, rs4, q4⟩
        · exact q'.elim
      · have e : i = xs.length := by omega
        subst e
        rw [List.drop_length] at q'
        exact .inl ⟨w1 (by show xs[xs.length]? = none; simp), q' c' σ' rfl (.refl c') rh' rs'⟩
    | live n =>
      refine ⟨fun i m σ' H' => ∃ (c' : Cn) (h' : AH) (as' : AS), c'.X = d.X ∧ c'.H = H' ∧ Ext d c' ∧ RepH X.K c' h' ∧ RepS X.K ct c' as' σ' ∧ PostS X.K ct W D c' (Mi.forC n mg mb m i as' h'), ⟨_, d, h1, as, rfl, rfl, .refl d, rh1, rs1, q1⟩, ?_⟩
      rintro i m σ' H' ⟨c', h', as', hx', rfl, e', rh', rs', q'⟩
      cases m with
      | zero =>
        unfold Mi.forC at q'
        split at q'
        · rename_i xs hn
          split at q'
          · rename_i hl
            refine .inl ⟨(wk i c' h' e' rh' ⟨xs, hn⟩).1 ?_, q' c' σ' rfl (.refl c') rh' rs'⟩
            show (match h'[n]? with | some (.lst xs) => xs[i]? | _ => none) = none
            rw [hn]
            exact List.getElem?_eq_none hl
          · exact q'.elim
        · exact q'.elim
      | succ m =>
        unfold Mi.forC at q'
        split at q'
        · rename_i xs hn
          have en : nth h' (.live n) i = xs[i]? := by
            show (match h'[n]? with | some (.lst xs) => xs[i]? | _ => none) = _
            rw [hn]
          obtain ⟨w1, w2⟩ := wk i c' h' e' rh' ⟨xs, hn⟩
          split at q'
          · rename_i hx0
            exact .inl ⟨w1 (en.trans hx0), q' c' σ' rfl (.refl c') rh' rs'⟩
          · rename_i a hx0
            obtain ⟨go, yl⟩ := w2 a (en.trans hx0)
            refine .inr ⟨go, fun σ2 H2 => ∃ m', m' < m + 1 ∧ ∃ (c2 : Cn) (h2 : AH) (as2 : AS), c2.X = d.X ∧ c2.H = H2 ∧ Ext d c2 ∧ RepH X.K c2 h2 ∧ RepS X.K ct c2 as2 σ2 ∧ PostS X.K ct W D c2 (Mi.forC n mg mb m' (i + 1) as2 h2), fun σ2 H2 n => n, fun x H2 y => ?_⟩
            obtain ⟨d2, hx2, rfl, e2, rh2, r2⟩ := yl x H2 y
            refine ⟨d2, h', as', _, rfl, rh2, rs'.ext e2, r2, ?_⟩
            split at q'
            · rename_i as3 h3 eg
              rw [eg]
              intro d3 σ3 hx3 e3 rh3 rs3
              refine ⟨d3, h3, as3, rfl, rh3, rs3, ?_⟩
              refine PostS.turn (PostS.mono hx3 e3 (PostS.mono hx2 e2 q')) fun a4 h4 d4 σ4 hx4 e4 rh4 rs4 q4 => ?_
              exact ⟨m, by omega, d4, h4, a4, ((hx4.trans hx3).trans hx2).trans hx', rfl, ((e'.trans e2).trans e3).trans e4, rh4, rs4, q4⟩
            · exact q'.elim
        · exact q'.elim
theorem qs_while {c : Expr} {body : List Stmt} {tc : Mi.T} (fuel : Nat) (hp : PassesOwn (model X.prog X.w) X.A X.env X.xe) (hc : QT ct X W c tc) (hb : QSs ct X W body mb) : QS ct X W (.While c body [] pos) (Mi.sWhile fuel tc mb) :=
  PS.imp (ps_while hp hc hb) fun D σ H ⟨c, h, as, e, rh, rs, q⟩ => by
    refine ⟨fun m σ' H' => ∃ (c' : Cn) (h' : AH) (as' : AS), c'.H = H' ∧ RepH X.K c' h' ∧ RepS X.K ct c' as' σ' ∧ PostS X.K ct W D c' (Mi.whileF tc mb m as' h'), ⟨fuel, c, h, as, e, rh, rs, q⟩, ?_⟩
    rintro m σ' H' ⟨c', h', as', rfl, rh', rs', q'⟩
    cases m with
    | zero => exact q'.elim
    | succ m =>
      unfold Mi.whileF at q'
      refine st_bind rh' rs' q' fun d h1 a v hx e1 rh1 rs1 r1 q1 => ?_
      cases r1
      cases a with
      | false => exact q1 d σ' rfl (.refl d) rh1 rs1
      | true =>
        refine ⟨fun σ2 H2 => ∃ m', m' < m + 1 ∧ ∃ (c2 : Cn) (h2 : AH) (as2 : AS), c2.H = H2 ∧ RepH X.K c2 h2 ∧ RepS X.K ct c2 as2 σ2 ∧ PostS X.K ct W D c2 (Mi.whileF tc mb m' as2 h2), fun _ _ n => n, ?_⟩
        refine ⟨d, h1, as', rfl, rh1, rs1, ?_⟩
        exact PostS.turn q1 fun a4 h4 d4 σ4 hx4 e4 rh4 rs4 q4 => ⟨m, by omega, d4, h4, a4, rfl, rh4, rs4, q4⟩
end
end MiS

end

section
set_option maxHeartbeats 4000000
namespace MiS
open PySem PySem.Spec L2
open PyProof.Rows hiding St
open Mi (AV HC AH AX Res AS RS)

/-! ### comprehensions -/
/-- a target that stores in the slots vs alone -/
structure GIn (mg : Mi.G) (vs : List Nat) : Prop where
  ab : ∀ v as h as' h', mg v as h = some (as', h') → Mi.wipe as' vs = Mi.wipe as vs
/-- the reading of a target that stores in the slots vs alone -/
def gMw (K : Fg) (ct : Ct) (m : Mi.G) (vs : List Nat) : TG := fun v σ H Q => ∃ (c : Cn) (h : AH) (as : AS) (a : AV), c.H = H ∧ RepH K c h ∧ RepS K ct c as σ ∧ Rep K c a v ∧ PostG K ct (fun σ' H' => L2.wipe σ' vs = L2.wipe σ vs → Q σ' H') c (m a as h)
abbrev QGw (ct : Ct) (X : Cx) (e : Expr) (m : Mi.G) (vs : List Nat) : Prop := PG X e (gMw X.K ct m vs)
theorem wipe_set {σ : St} {i : Nat} {x : Option V} : ∀ {vs : List Nat}, i ∈ vs → L2.wipe (σ.set i x) vs = L2.wipe σ vs
  | [], h => by cases h
  | v :: vs, h => by
    show (L2.wipe (σ.set i x) vs).set v none = (L2.wipe σ vs).set v none
    by_cases e : i = v
    · subst e
      by_cases hm : i ∈ vs
      · rw [wipe_set hm]
      · have z : ∀ (vs : List Nat) (σ : St), i ∉ vs → L2.wipe (σ.set i x) vs = (L2.wipe σ vs).set i x := by
          intro vs
          induction vs with
          | nil => intro σ _; rfl
          | cons w ws ih =>
            intro σ hn
            show (L2.wipe (σ.set i x) ws).set w none = ((L2.wipe σ ws).set w none).set i x
            rw [ih σ (fun q => hn (List.mem_cons_of_mem _ q)), List.set_comm _ _ (fun q => hn (by rw [q]; exact List.mem_cons_self))]
        rw [z vs σ hm, List.set_set]
    · rw [wipe_set ((List.mem_cons.mp h).resolve_left e)]
theorem wipe_wipe {σ : St} : ∀ (vs ws : List Nat), (∀ x ∈ ws, x ∈ vs) → L2.wipe (L2.wipe σ ws) vs = L2.wipe σ vs
  | vs, [], _ => rfl
  | vs, w :: ws, h => by
    show L2.wipe ((L2.wipe σ ws).set w none) vs = _
    rw [wipe_set (h w List.mem_cons_self), wipe_wipe vs ws fun x hx => h x (List.mem_cons_of_mem _ hx)]
section
variable {ct : Ct} {X : Cx} {pos : Pos} {e : Expr} {es : List Expr}
theorem qgw_nm {i : Nat} {x : Str} {vs : List Nat} (hN : X.N.Nodup) (hi : X.N[i]? = some x) (hx : Loc X.env.scope x) (hm : i ∈ vs) (hk : ct.ok i = true := by rfl) (hf : X.fn x = true ∨ X.env.scope.names.lookup x = some .local := by first | exact .inl rfl | exact .inr rfl | assumption) : QGw ct X (.Name x pos) (Mi.gNm i) vs :=
  PG.imp (pg_name hN hi hx hf) fun v σ H Q ⟨c, h, as, a, e, rh, rs, r, q⟩ => by
    subst e
    exact q c _ rfl (.refl c) rh (rs.set i hk r) (wipe_set hm)
def gsMw (K : Fg) (ct : Ct) (ms : List Mi.G) (vs : List Nat) : TGs := fun ws σ H Q => ∃ (c : Cn) (h : AH) (as : AS) (al : List AV), c.H = H ∧ RepH K c h ∧ RepS K ct c as σ ∧ RepL K c al ws ∧ PostG K ct (fun σ' H' => L2.wipe σ' vs = L2.wipe σ vs → Q σ' H') c (Mi.gAll ms al as h)
abbrev QGsw (ct : Ct) (X : Cx) (e : List Expr) (ms : List Mi.G) (vs : List Nat) : Prop := PGs X e (gsMw X.K ct ms vs)
theorem qgsw_nil {vs : List Nat} : QGsw ct X [] [] vs := PGs.imp pgs_nil fun ws σ H Q ⟨c, h, as, al, e, rh, rs, r, q⟩ => by
  subst e
  cases al with
  | nil =>
    rw [repL_nil] at r
    exact ⟨r, q c _ rfl (.refl c) rh rs rfl⟩
  | cons _ _ => exact q.elim
theorem qgsw_cons {mg : Mi.G} {ms : List Mi.G} {vs : List Nat} (h1 : QGw ct X e mg vs) (h2 : QGsw ct X es ms vs) (hs : (assignEach (e :: es) X.env).map (·.2) = assign e X.env :: (assignEach es X.env).map (·.2) := by rfl) : QGsw ct X (e :: es) (mg :: ms) vs :=
  PGs.imp (pgs_cons h1 h2 hs) fun ws σ H Q ⟨c, h, as, al, e, rh, rs, r, q⟩ => by
    subst e
    cases al with
    | nil => exact q.elim
    | cons x xs =>
      rw [repL_cons] at r
      obtain ⟨v, w, rfl, r1, r2⟩ := r
      refine ⟨v, w, rfl, c, h, as, x, rfl, rh, rs, r1, ?_⟩
      unfold Mi.gAll at q
      split at q
      · rename_i s1 h1 e1
        rw [e1]
        exact fun d σ1 hx e2 rh1 rs1 hw => ⟨d, h1, s1, xs, rfl, rh1, rs1, RepL.ext e2 _ r2, by rw [hw]; exact q.mono hx e2⟩
      · exact q.elim
theorem qgw_tp {k : Nat} {ms : List Mi.G} {vs : List Nat} (hc : X.calm = true) (h : QGsw ct X es ms vs) (hn : (assignEach es X.env).length = ms.length := by rfl) (hst : (assignEach es X.env).findIdx? (·.1) = none := by rfl) : QGw ct X (.Tuple es k pos) (Mi.gTp ms) vs :=
  PG.imp (pg_or (pg_tup hc h hn hst) (pg_lst hc h hn hst)) fun v σ H Q ⟨c, h, as, a, e, rh, rs, r, q⟩ => by
    subst e
    have len : ∀ (Q : St → Hp → Prop) (ms : List Mi.G) (xs : List AV) (as : AS) (h : AH), PostG X.K ct Q c (Mi.gAll ms xs as h) → xs.length = ms.length := by
      intro Q ms
      induction ms with
      | nil =>
        intro xs as h q
        cases xs with
        | nil => rfl
        | cons _ _ => exact q.elim
      | cons g gs ih =>
        intro xs as h q
        cases xs with
        | nil => exact q.elim
        | cons x xs =>
          unfold Mi.gAll at q
          split at q
          · simp [ih xs _ _ q]
          · exact q.elim
    unfold Mi.gTp at q
    split at q
    · rename_i xs
      rw [rep_tup] at r
      obtain ⟨p, vs, rfl, e2, e3⟩ := r
      exact .inl ⟨p, vs, rfl, .inl (.inl e2), by rw [← e3.length]; exact len _ _ _ _ _ q, c, h, as, xs, rfl, rh, rs, e3, q⟩
    · split at q
      · rename_i xs e1
        obtain ⟨p, vs, rfl, e2, e3⟩ := lst_at rh r e1
        exact .inr ⟨p, vs, rfl, .inl (.inl e2), by rw [← e3.length]; exact len _ _ _ _ _ q, c, h, as, xs, rfl, rh, rs, e3, q⟩
      · exact q.elim
end
/-- no exception leaves a comprehension -/
abbrev W0 : WX := fun _ _ _ _ => False
theorem RepS.wipe {K : Fg} {ct : Ct} {c : Cn} {as : AS} {σ : St} (h : RepS K ct c as σ) : ∀ vs : List Nat, vs.all ct.ok = true → RepS K ct c (Mi.wipe as vs) (L2.wipe σ vs)
  | [], _ => h
  | v :: vs, hk => by
    rw [List.all_cons, Bool.and_eq_true] at hk
    exact (h.wipe vs hk.2).gone v hk.1 none
/-- fewer reserved addresses -/
theorem ext_less {c : Cn} {X : Rv} (h : ∀ a ∈ X, a ∈ c.X) (hx : X.xa = c.X.xa) : Ext c ⟨c.ρ, X, c.H⟩ := ⟨⟨[], by simp, by simp⟩, fun _ _ h _ => h, fun _ _ h _ => h, fun _ o h => ⟨o, h⟩, fun a ha => .inl (h a ha), hx⟩
theorem RepH.less {K : Fg} {c : Cn} {h : AH} (rh : RepH K c h) {X : Rv} (hX : ∀ a ∈ X, a ∈ c.X) (hx : X.xa = c.X.xa) : RepH K ⟨c.ρ, X, c.H⟩ h :=
  ⟨rh.len, rh.nd, fun n a o hn ho => (rh.cell n a o hn ho).ext (ext_less hX hx) rfl, fun a ha => rh.res a (hX a ha)⟩
/-- the new list's place is reserved -/
theorem ext_res {c : Cn} {D : Addr} {o : HO} (hD : c.H D = none) : Ext c ⟨c.ρ, c.X.more D, upd c.H D o⟩ :=
  ⟨⟨[], by simp, by simp⟩, fun a u h _ => (upd_ne (ne_of_none h hD)).trans h, fun a u h _ => (upd_ne (ne_of_none h hD)).trans h, fun a u h => ⟨u, (upd_ne (ne_of_none h hD)).trans h⟩, fun a ha => by
    rcases Rv.mem_more.mp ha with e | e
    · rw [e]; exact .inr hD
    · exact .inl e, rfl⟩
theorem RepH.reserve {K : Fg} {c : Cn} {h : AH} (rh : RepH K c h) {D : Addr} {o : HO} (hD : c.H D = none) : RepH K ⟨c.ρ, c.X.more D, upd c.H D o⟩ h := by
  obtain ⟨n1, n2⟩ := rh.new_ne hD
  refine ⟨rh.len, rh.nd, fun n a u hn hu => ?_, fun a ha => ?_⟩
  · obtain ⟨o', e, _⟩ := rh.kind (List.mem_of_getElem? hn)
    exact (rh.cell n a u hn hu).ext (ext_res hD) (upd_ne (ne_of_none e hD))
  · rcases Rv.mem_more.mp ha with e | e
    · subst e
      exact ⟨by show upd c.H a o a ≠ none; rw [upd_same]; exact fun z => (by cases z), n1⟩
    · obtain ⟨h1, h2⟩ := rh.res a e
      refine ⟨?_, h2⟩
      show upd c.H D o a ≠ none
      rw [upd_ne (fun z => h1 (by rw [z]; exact hD))]
      exact h1
/-- the reserved list grows -/
theorem ext_grow {c : Cn} {D : Addr} {o : HO} {d : Cn} (e : Ext d c) (hD : d.H D = none) : Ext d ⟨c.ρ, c.X, upd c.H D o⟩ := by
  refine ⟨e.app, fun a u h h1 => ?_, fun a u h hf => ?_, fun a u h => ?_, e.res, e.xa⟩
  · exact (upd_ne (ne_of_none h hD)).trans (e.out a u h h1)
  · exact (upd_ne (ne_of_none h hD)).trans (e.fix a u h hf)
  · obtain ⟨o', z⟩ := e.on a u h
    exact ⟨o', (upd_ne (ne_of_none h hD)).trans z⟩
/-- nothing known stands at the reserved list D: it may grow, and become a cell, or a list by value -/
structure Ov (c d : Cn) (D : Addr) : Prop where
  at_ : ∃ ys, c.H D = some (.lst ys)
  mem : D ∈ c.X
  rho : ∃ m, d.ρ = c.ρ ++ m ∧ ∀ a ∈ m, a = D
  heap : ∀ a, a ≠ D → d.H a = c.H a
  less : ∀ a ∈ d.X, a ∈ c.X
  xa : d.X.xa = c.X.xa
mutual
theorem Rep.over {K : Fg} {c d : Cn} {D : Addr} (o : Ov c d D) : ∀ (x : AV) {v : V}, Rep K c x v → Rep K d x v
  | .non, _, h => by rw [rep_non] at h ⊢; exact h
  | .bl _, _, h => by rw [rep_bl] at h ⊢; exact h
  | .int _, _, h => by rw [rep_int] at h ⊢; exact h
  | .str _, _, h => by rw [rep_str] at h ⊢; exact h
  | .tup xs, _, h => by
    rw [rep_tup] at h ⊢
    obtain ⟨a, vs, h1, h2, h3⟩ := h
    refine ⟨a, vs, h1, ?_, RepL.over o xs h3⟩
    obtain ⟨ys, hD⟩ := o.at_
    rw [o.heap a (fun z => by rw [z, hD] at h2; cases h2)]
    exact h2
  | .lst xs, _, h => by
    rw [rep_lst] at h ⊢
    obtain ⟨a, vs, h1, h2, h3⟩ := h
    have na : a ≠ D := fun z => h2.2.2 (by rw [z]; exact o.mem)
    obtain ⟨m, em, hm⟩ := o.rho
    refine ⟨a, vs, h1, ⟨?_, fun z => ?_, fun z => h2.2.2 (o.less a z)⟩, RepL.over o xs h3⟩
    · rw [o.heap a na]
      exact h2.1
    · rw [em] at z
      rcases List.mem_append.mp z with z | z
      · exact h2.2.1 z
      · exact na (hm a z)
  | .scr false xs, _, h => by
    rw [rep_scr] at h ⊢
    obtain ⟨a, vs, h1, h2, h3⟩ := h
    refine ⟨a, vs, h1, ?_, RepL.over o xs h3⟩
    rcases h2 with ⟨ob, h2⟩ | h2
    · refine .inl ⟨ob, ?_⟩
      obtain ⟨ys, hD⟩ := o.at_
      rw [o.heap a (fun z => by rw [z, hD] at h2; cases h2)]
      exact h2
    · exact .inr h2
  | .scr true xs, _, h => by
    rw [rep_scrT] at h ⊢
    obtain ⟨a, vs, h1, h2, h3⟩ := h
    exact ⟨a, vs, h1, h2, RepL.over o xs h3⟩
  | .cel n, _, h => by
    rw [rep_cel] at h ⊢
    obtain ⟨a, h1, h2⟩ := h
    obtain ⟨m, em, _⟩ := o.rho
    refine ⟨a, h1, ?_⟩
    rw [em, List.getElem?_append_left (List.getElem?_eq_some_iff.mp h2).1]
    exact h2
  | .xcp _ _ _, _, h => by
    rw [rep_xcp] at h
    exact h.elim
theorem RepL.over {K : Fg} {c d : Cn} {D : Addr} (o : Ov c d D) : ∀ (xs : List AV) {vs : List V}, RepL K c xs vs → RepL K d xs vs
  | [], _, h => by rw [repL_nil] at h ⊢; exact h
  | x :: xs, _, h => by
    rw [repL_cons] at h ⊢
    obtain ⟨v, r, h1, h2, h3⟩ := h
    exact ⟨v, r, h1, Rep.over o x h2, RepL.over o xs h3⟩
end
theorem RepKV.over {κ : Type} {key : AV → Option κ} {K : Fg} {c d : Cn} {D : Addr} (o : Ov c d D) : ∀ {kvs : List (AV × AV)} {ks : List (κ × V)}, RepKV key K c kvs ks → RepKV key K d kvs ks
  | [], _, h => h
  | (a, b) :: r, _, h => by
    obtain ⟨k, v, s, h1, h2, h3, h4⟩ := h
    exact ⟨k, v, s, h1, h2, h3.over o, RepKV.over o h4⟩
theorem CellAt.over {K : Fg} {c d : Cn} {D a : Addr} {x : HC} (o : Ov c d D) (ne : a ≠ D) (h : CellAt K c a x) : CellAt K d a x := by
  cases x with
  | lst xs =>
    obtain ⟨vs, h1, h2⟩ := h
    exact ⟨vs, (o.heap a ne).trans h1, RepL.over o _ h2⟩
  | dic t kvs =>
    cases t with
    | false =>
      obtain ⟨ks, h1, h2⟩ := h
      exact ⟨ks, (o.heap a ne).trans h1, h2.over o⟩
    | true =>
      obtain ⟨ks, h1, h2⟩ := h
      exact ⟨ks, (o.heap a ne).trans h1, h2.over o⟩
/-- the list grows -/
theorem ov_grow {c : Cn} {D : Addr} {ys : List V} {o : HO} (h : c.H D = some (.lst ys)) (hm : D ∈ c.X) : Ov c ⟨c.ρ, c.X, upd c.H D o⟩ D := ⟨⟨ys, h⟩, hm, ⟨[], by simp, by simp⟩, fun a ha => upd_ne ha, fun a z => z, rfl⟩
theorem RepH.grow {K : Fg} {c : Cn} {h : AH} (rh : RepH K c h) {D : Addr} {ys : List V} {o : HO} (e : c.H D = some (.lst ys)) (hm : D ∈ c.X) : RepH K ⟨c.ρ, c.X, upd c.H D o⟩ h := by
  have ov := ov_grow (o := o) e hm
  refine ⟨rh.len, rh.nd, fun n a x hn hx => (rh.cell n a x hn hx).over ov fun z => (rh.res D hm).2 (by rw [← z]; exact List.mem_of_getElem? hn), fun a ha => ?_⟩
  refine ⟨?_, (rh.res a ha).2⟩
  show upd c.H D o a ≠ none
  by_cases z : a = D
  · rw [z, upd_same]
    exact fun w => (by cases w)
  · rw [upd_ne z]
    exact (rh.res a ha).1
/-- .. becomes a list by value -/
theorem ov_val {c : Cn} {D : Addr} {ys : List V} {X : Rv} (h : c.H D = some (.lst ys)) (hm : D ∈ c.X) (hX : ∀ a ∈ X, a ∈ c.X) (hx : X.xa = c.X.xa) : Ov c ⟨c.ρ, X, c.H⟩ D := ⟨⟨ys, h⟩, hm, ⟨[], by simp, by simp⟩, fun a ha => rfl, hX, hx⟩
/-- .. becomes a cell -/
theorem ov_cell {c : Cn} {D : Addr} {ys : List V} {X : Rv} (h : c.H D = some (.lst ys)) (hm : D ∈ c.X) (hX : ∀ a ∈ X, a ∈ c.X) (hx : X.xa = c.X.xa) : Ov c ⟨c.ρ ++ [D], X, c.H⟩ D := ⟨⟨ys, h⟩, hm, ⟨[D], rfl, by simp⟩, fun a ha => rfl, hX, hx⟩
theorem RepH.cellD {K : Fg} {c : Cn} {h : AH} (rh : RepH K c h) {D : Addr} {ys : List V} {xs : List AV} {X : Rv} (e : c.H D = some (.lst ys)) (hm : D ∈ c.X) (hX : ∀ a ∈ X, a ∈ c.X ∧ a ≠ D) (hx : X.xa = c.X.xa) (r : RepL K c xs ys) :
    RepH K ⟨c.ρ ++ [D], X, c.H⟩ (h ++ [.lst xs]) := by
  have ov : Ov c ⟨c.ρ ++ [D], X, c.H⟩ D := ov_cell e hm (fun a ha => (hX a ha).1) hx
  have nD := (rh.res D hm).2
  refine ⟨by simp [rh.len], ?_, fun n a u hn hu => ?_, fun a ha => ?_⟩
  · rw [List.nodup_append]
    exact ⟨rh.nd, by simp, fun a ha b hb => by rw [List.mem_singleton.mp hb]; exact fun z => nD (by rw [← z]; exact ha)⟩
  · have hn : (c.ρ ++ [D])[n]? = some a := hn
    by_cases hl : n < c.ρ.length
    · rw [List.getElem?_append_left hl] at hn
      rw [List.getElem?_append_left (by rw [← rh.len]; exact hl)] at hu
      exact (rh.cell n a u hn hu).over ov fun z => nD (by rw [← z]; exact List.mem_of_getElem? hn)
    · rw [List.getElem?_append_right (by omega)] at hn
      rw [List.getElem?_append_right (by rw [← rh.len]; omega), ← rh.len] at hu
      have z : n - c.ρ.length = 0 := by
        have := (List.getElem?_eq_some_iff.mp hn).1
        simp at this
        omega
      rw [z] at hn hu
      simp at hn hu
      subst hn hu
      exact ⟨ys, e, RepL.over ov _ r⟩
  · refine ⟨(rh.res a (hX a ha).1).1, fun z => ?_⟩
    rcases List.mem_append.mp z with z | z
    · exact (rh.res a (hX a ha).1).2 z
    · exact (hX a ha).2 (List.mem_singleton.mp z)

section
variable {ct : Ct} {W : WX} {K : Fg}
/-- what is wanted of the items -/
def Fin (K : Fg) (Q : VK) (D : Addr) (c : Cn) : Res (List AV) → Prop
  | .ok xs h => ∀ (e : Cn) (vs : List V), e.X = c.X → Ext c e → RepH K e h → RepL K e xs vs → e.H D = some (.lst vs) → Q (.ref D) e.H
  | _ => False
/-- states of the block: all that is known but the list at D -/
structure Blk (K : Fg) (d : Cn) (D : Addr) (c : Cn) (h : AH) (acc : List AV) : Prop where
  X : c.X = d.X.more D
  ext : Ext d c
  rh : RepH K c h
  at_ : ∃ vs, c.H D = some (.lst vs) ∧ RepL K c acc vs
/-- a result of the block, at its state: relative to the outer one -/
def FinD (K : Fg) (Q : VK) (d : Cn) (D : Addr) : Res (List AV) → Prop
  | .ok xs h => ∀ (e : Cn), Blk K d D e h xs → Q (.ref D) e.H
  | _ => False
theorem Blk.step {d c c' : Cn} {D : Addr} {h h' : AH} {acc : List AV} (b : Blk K d D c h acc) (hx : c'.X = c.X) (e : Ext c c') (rh : RepH K c' h') : Blk K d D c' h' acc := by
  obtain ⟨vs, h1, h2⟩ := b.at_
  have nD : D ∉ c.ρ := (b.rh.res D (by rw [b.X]; exact Rv.mem_self)).2
  exact ⟨hx.trans b.X, b.ext.trans e, rh, vs, e.out _ _ h1 nD, RepL.ext e _ h2⟩
theorem Blk.push {d c : Cn} {D : Addr} {h : AH} {acc : List AV} {y : AV} {v : V} (hD : d.H D = none) (b : Blk K d D c h acc) (r : Rep K c y v) : ∃ vs, c.H D = some (.lst vs) ∧ acc.length = vs.length ∧ Blk K d D ⟨c.ρ, c.X, upd c.H D (.lst (vs ++ [v]))⟩ h (acc ++ [y]) := by
  obtain ⟨vs, h1, h2⟩ := b.at_
  have hm : D ∈ c.X := by rw [b.X]; exact Rv.mem_self
  refine ⟨vs, h1, h2.length, b.X, ext_grow b.ext hD, b.rh.grow h1 hm, vs ++ [v], upd_same, ?_⟩
  exact RepL.over (ov_grow h1 hm) _ (h2.append (RepL.one r))
/-- one turn of the block -/
theorem lc_turn {mg : Mi.G} {mt : Mi.T} {me : Mi.E} {vs : List Nat} {σ : St} {as : AS} {d c : Cn} {D : Addr} {h : AH} {acc : List AV} {a : AV} {x : V} {Q : VK} {go : List AV → AH → Res (List AV)} {Nx : Hp → Prop} (hD : d.H D = none) (rs0 : RepS K ct d as σ) (hw : vs.all ct.ok = true) (b : Blk K d D c h acc) (rx : Rep K c a x)
    (q : FinD K Q d D (match mg a (Mi.wipe as vs) h with
      | some (σ1, h1) => (mt σ1 h1).bind fun k h2 => if k = true then (if acc.length < Mi.LINE then (me σ1 h2).bind fun y h3 => go (acc ++ [y]) h3 else .no) else go acc h2
      | none => .no))
    (k : ∀ (c' : Cn) (h' : AH) (acc' : List AV), Blk K d D c' h' acc' → FinD K Q d D (go acc' h') → Nx c'.H) :
    gMw K ct mg vs x (L2.wipe σ vs) c.H fun σ2 H2 => L2.wipe σ2 vs = L2.wipe σ vs ∧ tM K ct W0 RQ mt σ2 H2 fun b H3 =>
      if b = true then tM K ct W0 (RE K) me σ2 H3 fun y H4 => ∃ acc, H4 D = some (.lst acc) ∧ acc.length < sizeLine ∧ Nx (upd H4 D (.lst (acc ++ [y]))) else Nx H3 := by
  refine ⟨c, h, Mi.wipe as vs, a, rfl, b.rh, (rs0.ext b.ext).wipe vs hw, rx, ?_⟩
  cases eg : mg a (Mi.wipe as vs) h with
  | none => rw [eg] at q; exact q.elim
  | some p =>
    obtain ⟨as1, h1⟩ := p
    rw [eg] at q
    intro d1 σ1 hx1 e1 rh1 rs1 hw
    have b1 := b.step hx1 e1 rh1
    rw [wipe_wipe vs vs fun _ z => z] at hw
    refine ⟨hw, ?_⟩
    dsimp only at q
    refine ⟨d1, h1, as1, rfl, rh1, rs1, ?_⟩
    cases et : mt as1 h1 with
    | no => rw [et] at q; exact q.elim
    | ex e h' => rw [et] at q; exact q.elim
    | ok k2 h2 =>
      rw [et] at q
      dsimp only [Mi.Res.bind_ok] at q
      intro d2 k2' hx2 e2 rh2 ek
      cases ek
      have b2 := b1.step hx2 e2 rh2
      have rs2 := rs1.ext e2
      cases k2 with
      | false =>
        rw [if_neg Bool.false_ne_true]
        rw [if_neg Bool.false_ne_true] at q
        exact k d2 h2 acc b2 q
      | true =>
        rw [if_pos rfl]
        rw [if_pos rfl] at q
        split at q
        · rename_i hl
          refine ⟨d2, h2, as1, rfl, rh2, rs2, ?_⟩
          cases ee : me as1 h2 with
          | no => rw [ee] at q; exact q.elim
          | ex e h' => rw [ee] at q; exact q.elim
          | ok y h3 =>
            rw [ee] at q
            intro d3 v3 hx3 e3 rh3 r3
            have b3 := b2.step hx3 e3 rh3
            obtain ⟨ws, w1, w2, w3⟩ := b3.push hD r3
            exact ⟨ws, w1, by rw [← w2, line_eq]; exact hl, k _ h3 _ w3 q⟩
        · exact q.elim
theorem bind_bind {α β γ : Type} (r : Res α) (f : α → AH → Res β) (g : β → AH → Res γ) : (r.bind f).bind g = r.bind fun a h => (f a h).bind g := by cases r <;> rfl
theorem use_lc {γ : Type} {P : Cn → Res γ → Prop} {mi : Mi.I} {mg : Mi.G} {mt : Mi.T} {me : Mi.E} {vs : List Nat} {c : Cn} {h : AH} {as : AS} {σ : St} {f : List AV → AH → Res γ} {Q : VK} (pk : Pk K ct W σ c P) (rh : RepH K c h) (rs : RepS K ct c as σ) (hw : vs.all ct.ok = true) (hp : P c ((Mi.lcOf mi mg mt me vs as h).bind f))
    (fin : ∀ (d e : Cn) (h1 : AH) (xs : List AV) (D : Addr), d.X = c.X → Ext c d → d.H D = none → D ∉ d.X → P c (f xs h1) → Blk K d D e h1 xs → Q (.ref D) e.H) :
    tLc (tM K ct W (RI K) mi) (gMw K ct mg vs) (tM K ct W0 RQ mt) (tM K ct W0 (RE K) me) vs σ c.H Q := by
  unfold Mi.lcOf at hp
  rw [bind_bind] at hp
  refine tM_bindC pk rh rs hp fun d h1 ai J hx e1 rh1 rs1 wk q1 => ?_
  intro D hD
  have nX := (rh1.new_ne hD).2
  have finD : ∀ r : Res (List AV), P c ((Mi.noEx r).bind f) → FinD K Q d D r := by
    intro r hr
    cases r with
    | ok xs hh => exact fun e b => fin d e hh xs D hx e1 hD nX hr b
    | ex x hh => exact (pk.no hr).elim
    | no => exact (pk.no hr).elim
  have b0 : Blk K d D ⟨d.ρ, d.X.more D, upd d.H D (.lst [])⟩ h1 [] := ⟨rfl, ext_res hD, rh1.reserve hD, [], upd_same, by rw [repL_nil]⟩
  cases ai with
  | seq xs =>
    refine ⟨fun i m H' => m = xs.length - i ∧ i ≤ xs.length ∧ ∃ (c' : Cn) (h' : AH) (acc : List AV), c'.H = H' ∧ Blk K d D c' h' acc ∧ FinD K Q d D (Mi.lcL mg mt me (Mi.wipe as vs) (xs.drop i) acc h'), ⟨xs.length, by simp, Nat.zero_le _, _, h1, [], rfl, b0, finD _ q1⟩, ?_⟩
    rintro i m H' ⟨rfl, hi, c', h', acc, rfl, b, q⟩
    obtain ⟨w1, w2⟩ := wk i c' h' b.ext b.rh trivial
    by_cases hlt : i < xs.length
    · have hn : nth h' (.seq xs) i = some xs[i] := List.getElem?_eq_getElem hlt
      obtain ⟨go, yl⟩ := w2 _ hn
      rw [List.drop_eq_getElem_cons hlt] at q
      refine .inr ⟨go, fun H2 => ∃ m', m' < xs.length - i ∧ m' = xs.length - (i + 1) ∧ i + 1 ≤ xs.length ∧ ∃ (c2 : Cn) (h2 : AH) (acc : List AV), c2.H = H2 ∧ Blk K d D c2 h2 acc ∧ FinD K Q d D (Mi.lcL mg mt me (Mi.wipe as vs) (xs.drop (i + 1)) acc h2), fun H2 n => n, fun x H2 y => ?_⟩
      obtain ⟨d2, hx2, rfl, e2, rh2, r2⟩ := yl x H2 y
      have b2 := b.step hx2 e2 rh2
      unfold Mi.lcL at q
      exact lc_turn (go := fun acc h => Mi.lcL mg mt me (Mi.wipe as vs) (xs.drop (i + 1)) acc h) hD rs1 hw b2 r2 q fun c3 h3 acc3 b3 q3 => ⟨_, by omega, rfl, hlt, c3, h3, acc3, rfl, b3, q3⟩
    · have e : i = xs.length := by omega
      subst e
      rw [List.drop_length] at q
      exact .inl ⟨w1 (by show xs[xs.length]? = none; simp), q c' b⟩
  | live n =>
    refine ⟨fun i m H' => ∃ (c' : Cn) (h' : AH) (acc : List AV), c'.H = H' ∧ Blk K d D c' h' acc ∧ FinD K Q d D (Mi.lcC n mg mt me (Mi.wipe as vs) m i acc h'), ⟨_, _, h1, [], rfl, b0, finD _ q1⟩, ?_⟩
    rintro i m H' ⟨c', h', acc, rfl, b, q⟩
    cases m with
    | zero =>
      unfold Mi.lcC at q
      split at q
      · rename_i xs hn
        split at q
        · rename_i hl
          refine .inl ⟨(wk i c' h' b.ext b.rh ⟨xs, hn⟩).1 ?_, q c' b⟩
          show (match h'[n]? with | some (.lst xs) => xs[i]? | _ => none) = none
          rw [hn]
          exact List.getElem?_eq_none hl
        · exact q.elim
      · exact q.elim
    | succ m =>
      unfold Mi.lcC at q
      split at q
      · rename_i xs hn
        have en : nth h' (.live n) i = xs[i]? := by
          show (match h'[n]? with | some (.lst xs) => xs[i]? | _ => none) = _
          rw [hn]
        obtain ⟨w1, w2⟩ := wk i c' h' b.ext b.rh ⟨xs, hn⟩
        split at q
        · rename_i hx0
          exact .inl ⟨w1 (en.trans hx0), q c' b⟩
        · rename_i a hx0
          obtain ⟨go, yl⟩ := w2 a (en.trans hx0)
          refine .inr ⟨go, fun H2 => ∃ m', m' < m + 1 ∧ ∃ (c2 : Cn) (h2 : AH) (acc : List AV), c2.H = H2 ∧ Blk K d D c2 h2 acc ∧ FinD K Q d D (Mi.lcC n mg mt me (Mi.wipe as vs) m' (i + 1) acc h2), fun H2 n => n, fun x H2 y => ?_⟩
          obtain ⟨d2, hx2, rfl, e2, rh2, r2⟩ := yl x H2 y
          have b2 := b.step hx2 e2 rh2
          exact lc_turn (go := fun acc h => Mi.lcC n mg mt me (Mi.wipe as vs) m (i + 1) acc h) hD rs1 hw b2 r2 q fun c3 h3 acc3 b3 q3 => ⟨m, by omega, c3, h3, acc3, rfl, b3, q3⟩
      · exact q.elim
/-- the list by value, in a cell -/
theorem Blk.val {c d e : Cn} {D : Addr} {h1 : AH} {xs : List AV} {Q : VK} (hx : d.X = c.X) (e1 : Ext c d) (hD : d.H D = none) (nX : D ∉ d.X) (b : Blk K d D e h1 xs) (q : ∀ (f : Cn) (v : V), f.X = c.X → Ext c f → RepH K f h1 → Rep K f (.lst xs) v → Q v f.H) : Q (.ref D) e.H := by
  obtain ⟨vs, h2, h3⟩ := b.at_
  have hm : D ∈ e.X := by rw [b.X]; exact Rv.mem_self
  have sub : ∀ a ∈ d.X, a ∈ e.X := fun a ha => by rw [b.X]; exact Rv.mem_of ha
  have hxa : d.X.xa = e.X.xa := by rw [b.X]; rfl
  have ee : Ext e ⟨e.ρ, d.X, e.H⟩ := ext_less sub hxa
  refine q ⟨e.ρ, d.X, e.H⟩ (.ref D) hx ((e1.trans b.ext).trans ee) (b.rh.less sub hxa) ?_
  rw [rep_lst]
  exact ⟨D, vs, rfl, ⟨h2, (b.rh.res D hm).2, nX⟩, RepL.ext ee _ h3⟩
theorem Blk.cell {c d e : Cn} {D : Addr} {h1 : AH} {xs : List AV} {Q : VK} (hx : d.X = c.X) (e1 : Ext c d) (hD : d.H D = none) (nX : D ∉ d.X) (b : Blk K d D e h1 xs) (q : ∀ (f : Cn) (v : V), f.X = c.X → Ext c f → RepH K f (h1 ++ [.lst xs]) → Rep K f (.cel h1.length) v → Q v f.H) : Q (.ref D) e.H := by
  obtain ⟨vs, h2, h3⟩ := b.at_
  have hm : D ∈ e.X := by rw [b.X]; exact Rv.mem_self
  have hcD : c.H D = none := e1.off hD
  have ece : Ext c e := e1.trans b.ext
  refine q ⟨e.ρ ++ [D], d.X, e.H⟩ (.ref D) hx ?_ (b.rh.cellD h2 hm (fun a ha => ⟨by rw [b.X]; exact Rv.mem_of ha, fun z => nX (by rw [← z]; exact ha)⟩) (by rw [b.X]; rfl) h3) ?_
  · obtain ⟨m, em, hmm⟩ := ece.app
    refine ⟨⟨m ++ [D], by show e.ρ ++ [D] = _; rw [em, List.append_assoc], fun a ha => ?_⟩, ece.out, ece.fix, ece.on, fun a ha => ?_, e1.xa⟩
    · rcases List.mem_append.mp ha with z | z
      · exact hmm a z
      · rw [List.mem_singleton.mp z]
        exact hcD
    · exact e1.res a ha
  · rw [rep_cel]
    refine ⟨D, rfl, ?_⟩
    show (e.ρ ++ [D])[h1.length]? = some D
    rw [← b.rh.len]
    simp
end
section
variable {ct : Ct} {X : Cx} {W : WX} {elt tg iter : Expr} {ifs : List Expr} {scope : Scope} {own : List (Str × Nat)} {pos py spos : Pos} {mi : Mi.I} {mg : Mi.G} {mt : Mi.T} {me : Mi.E}
abbrev QTs (ct : Ct) (X : Cx) (W : WX) (ifs : List Expr) (m : Mi.T) : Prop := PTs X ifs (tM X.K ct W RQ m)
theorem PTs.imp {X : Cx} {e : List Expr} {t u : TT} (p : PTs X e t) (h : ∀ σ H Q, u σ H Q → t σ H Q) : PTs X e u := ⟨fun pins s σ H Q I q => p.run pins s σ H Q I (h σ H Q q)⟩
theorem qts_nil : QTs ct X W [] Mi.tYes := PTs.imp pts_nil fun σ H Q ⟨c, h, as, e, rh, rs, q⟩ => by
  subst e
  exact q c true rfl (.refl c) rh rfl
theorem qts_one {c : Expr} (h : QT ct X W c mt) : QTs ct X W [c] mt := pts_one h
theorem q_lc (hc : X.calm = true) (hN : X.N.Nodup) (hi : QI ct X W tg iter mi) (ok : BlkOk X.N X.env.scope scope own)
    (hg : ∀ (s : Shared) (H : Hp) (C : Addr) (cl : List (Str × Addr)) (fp : List Addr), QGw ct (X.blk s H scope (compEnvC scope cl C X.env) fp) tg mg (own.map (·.2))) (ht : ∀ (s : Shared) (H : Hp) (C : Addr) (cl : List (Str × Addr)) (fp : List Addr), QTs ct (X.blk s H scope (compEnvC scope cl C X.env) fp) W0 ifs mt)
    (he : ∀ (s : Shared) (H : Hp) (C : Addr) (cl : List (Str × Addr)) (fp : List Addr), QE ct (X.blk s H scope (compEnvC scope cl C X.env) fp) W0 elt me) (hs : ∀ x, foldedSetIterable iter X.env x = pure x := by intro _; rfl) (hw : (own.map (·.2)).all ct.ok = true := by rfl) :
    QE ct X W (.ListComp elt [⟨tg, iter, ifs, 0⟩] scope pos) (Mi.eLc mi mg mt me (own.map (·.2))) :=
  PE.imp (pe_lc hc hN hi ok hg ht he hs) fun σ H Q ⟨c, h, as, e, rh, rs, q⟩ => by
    subst e
    exact use_lc (P := fun c r => Post X.K ct W (RE X.K) c σ Q r) Post.pk rh rs hw q fun d e h1 xs D hx e1 hD nX q1 b => b.val hx e1 hD nX q1
theorem q_lcC (hc : X.calm = true) (hN : X.N.Nodup) (hi : QI ct X W tg iter mi) (ok : BlkOk X.N X.env.scope scope own)
    (hg : ∀ (s : Shared) (H : Hp) (C : Addr) (cl : List (Str × Addr)) (fp : List Addr), QGw ct (X.blk s H scope (compEnvC scope cl C X.env) fp) tg mg (own.map (·.2))) (ht : ∀ (s : Shared) (H : Hp) (C : Addr) (cl : List (Str × Addr)) (fp : List Addr), QTs ct (X.blk s H scope (compEnvC scope cl C X.env) fp) W0 ifs mt)
    (he : ∀ (s : Shared) (H : Hp) (C : Addr) (cl : List (Str × Addr)) (fp : List Addr), QE ct (X.blk s H scope (compEnvC scope cl C X.env) fp) W0 elt me) (hs : ∀ x, foldedSetIterable iter X.env x = pure x := by intro _; rfl) (hw : (own.map (·.2)).all ct.ok = true := by rfl) :
    QE ct X W (.ListComp elt [⟨tg, iter, ifs, 0⟩] scope pos) (Mi.eLcC mi mg mt me (own.map (·.2))) :=
  PE.imp (pe_lc hc hN hi ok hg ht he hs) fun σ H Q ⟨c, h, as, e, rh, rs, q⟩ => by
    subst e
    exact use_lc (P := fun c r => Post X.K ct W (RE X.K) c σ Q r) Post.pk rh rs hw q fun d e h1 xs D hx e1 hD nX q1 b => b.cell hx e1 hD nX q1
/-- name = [..] -/
theorem qs_setLc {i : Nat} {y : Str} (hc : X.calm = true) (hN : X.N.Nodup) (hy : X.N[i]? = some y) (hyl : X.env.scope.names.lookup y = some .local)
    (hsw : swapsWith (.ListComp elt [⟨tg, iter, ifs, 0⟩] scope pos) (some (.Name y py)) spos.line X.env = pure true) (hi : QI ct X W tg iter mi) (ok : BlkOk X.N X.env.scope scope own)
    (hg : ∀ (s : Shared) (H : Hp) (C : Addr) (cl : List (Str × Addr)) (fp : List Addr), QGw ct (X.blk s H scope (compEnvC scope cl C X.env) fp) tg mg (own.map (·.2))) (ht : ∀ (s : Shared) (H : Hp) (C : Addr) (cl : List (Str × Addr)) (fp : List Addr), QTs ct (X.blk s H scope (compEnvC scope cl C X.env) fp) W0 ifs mt)
    (he : ∀ (s : Shared) (H : Hp) (C : Addr) (cl : List (Str × Addr)) (fp : List Addr), QE ct (X.blk s H scope (compEnvC scope cl C X.env) fp) W0 elt me) (hs : ∀ x, foldedSetIterable iter X.env x = pure x := by intro _; rfl) (hw : (own.map (·.2)).all ct.ok = true := by rfl) (hk : ct.ok i = true := by rfl) :
    QS ct X W (.Assign [.Name y py] (.ListComp elt [⟨tg, iter, ifs, 0⟩] scope pos) spos) (Mi.sAsg (Mi.eLc mi mg mt me (own.map (·.2))) (Mi.gNm i)) :=
  PS.imp (ps_setLc hc hN hy hyl hsw hi ok hg ht he hs) fun D σ H ⟨c, h, as, e, rh, rs, q⟩ => by
    subst e
    exact use_lc (γ := AV) (PostS.pk rs) rh rs hw q fun d e h1 xs Dl hx e1 hD nX q1 b => b.val (Q := fun x H1 => D.nx (σ.set i (some x)) H1) hx e1 hD nX fun f v hx2 e2 rh2 r2 => q1 f _ hx2 e2 rh2 ((rs.ext e2).set i hk r2)
theorem qs_setLcC {i : Nat} {y : Str} (hc : X.calm = true) (hN : X.N.Nodup) (hy : X.N[i]? = some y) (hyl : X.env.scope.names.lookup y = some .local)
    (hsw : swapsWith (.ListComp elt [⟨tg, iter, ifs, 0⟩] scope pos) (some (.Name y py)) spos.line X.env = pure true) (hi : QI ct X W tg iter mi) (ok : BlkOk X.N X.env.scope scope own)
    (hg : ∀ (s : Shared) (H : Hp) (C : Addr) (cl : List (Str × Addr)) (fp : List Addr), QGw ct (X.blk s H scope (compEnvC scope cl C X.env) fp) tg mg (own.map (·.2))) (ht : ∀ (s : Shared) (H : Hp) (C : Addr) (cl : List (Str × Addr)) (fp : List Addr), QTs ct (X.blk s H scope (compEnvC scope cl C X.env) fp) W0 ifs mt)
    (he : ∀ (s : Shared) (H : Hp) (C : Addr) (cl : List (Str × Addr)) (fp : List Addr), QE ct (X.blk s H scope (compEnvC scope cl C X.env) fp) W0 elt me) (hs : ∀ x, foldedSetIterable iter X.env x = pure x := by intro _; rfl) (hw : (own.map (·.2)).all ct.ok = true := by rfl) (hk : ct.ok i = true := by rfl) :
    QS ct X W (.Assign [.Name y py] (.ListComp elt [⟨tg, iter, ifs, 0⟩] scope pos) spos) (Mi.sAsg (Mi.eLcC mi mg mt me (own.map (·.2))) (Mi.gNm i)) :=
  PS.imp (ps_setLc hc hN hy hyl hsw hi ok hg ht he hs) fun D σ H ⟨c, h, as, e, rh, rs, q⟩ => by
    subst e
    exact use_lc (γ := AV) (PostS.pk rs) rh rs hw q fun d e h1 xs Dl hx e1 hD nX q1 b => b.cell (Q := fun x H1 => D.nx (σ.set i (some x)) H1) hx e1 hD nX fun f v hx2 e2 rh2 r2 => q1 f _ hx2 e2 rh2 ((rs.ext e2).set i hk r2)
end
end MiS

end

section
set_option maxHeartbeats 4000000
/-! MiX0: an own exception over an own exception over ValueError, its __init__ says super().__init__(text) and stores its arguments. -/
namespace PySem
namespace MiX
open PySem.W PySem.Calls PyProof.Rows PySem.HandSPX
/-- self.f = f, for each -/
inductive Asgs : List Stmt → List Str → Prop
  | nil : Asgs [] []
  | cons {f : Str} {a b c d : Pos} {r : List Stmt} {fs : List Str} (t : Asgs r fs) : Asgs (.Assign [.Attribute (.Name "self" a) f b] (.Name f c) d :: r) (f :: fs)
/-- what the written part says of the function -/
structure InitFn (K : Frag) (prog : Program) (C fI : Addr) (fs : List Str) : Prop where
  ex : ∃ (oc : Value) (od : Option Addr) (qual : Str) (params : Arguments) (txt : Str) (j : Nat) (p0 p1 p2 p3 p4 p5 : Pos) (asg : List Stmt) (scope : Scope) (dV kV doc pm : Value) (an : Option Addr) (cda cc : Addr) (ct : Value) (osl : Array (Option Value)),
    K.lookup fI = some ⟨oc, od, .func (ksFn "__init__" qual params (.Expr (.Call (.Attribute (.Call (.Name "super" p0) [] [] p1) "__init__" p2) [.Constant (.str txt) j p3] [] p4) p5 :: asg) scope dV kV doc pm an (.ref cda) ct cc), osl⟩ ∧
    codeIn K (.ref cda) qual = true ∧ Asgs asg fs ∧ scope.kind = .function ∧ scope.isCoroutine = false ∧ scope.isGenerator = false ∧ scope.names.lookup ("super" : Str) = some .globalImplicit ∧ scope.names.lookup ("__class__" : Str) = some .free ∧
    (∀ f ∈ ("self" : Str) :: fs, scope.names.lookup f = some .local) ∧ (∀ y ∈ scope.names, y.2 ≠ .cell) ∧ (∃ ar, (params.posonlyargs ++ params.args).head? = some ar ∧ ar.arg = ("self" : Str)) ∧
    (∀ (s : Shared) (us : List Value), us.length = (("self" : Str) :: fs).length → BindsTo s (ksFn "__init__" qual params (.Expr (.Call (.Attribute (.Call (.Name "super" p0) [] [] p1) "__init__" p2) [.Constant (.str txt) j p3] [] p4) p5 :: asg) scope dV kV doc pm an (.ref cda) ct cc) ⟨us, []⟩ ((("self" : Str) :: fs).zip us)) ∧
    (∃ ccl cdd vs ccs file tf, K.lookup cda = some ⟨ccl, cdd, .fields vs, ccs⟩ ∧ vs[2]? = some (.str file tf) ∧ ((prog.main.file : Str) == file) = true) ∧
    (∃ cl cld csl, K.lookup cc = some ⟨cl, cld, .cell (some (.ref C)), csl⟩) ∧
    (∀ env : Env, ∃ pl : Sem Bool, eval (.Call (.Attribute (.Call (.Name "super" p0) [] [] p1) "__init__" p2) [.Constant (.str txt) j p3] [] p4) env = (do
      let ov ← attributeBase (.Call (.Name "super" p0) [] [] p1) "__init__" env (eval (.Call (.Name "super" p0) [] [] p1) env)
      standAt p2.atName
      let (f, first) ← holding [ov] (getMethod ov "__init__" pl)
      callWith p4 f first (backTo p4 (starEach [.Constant (.str txt) j p3] env)) []))
/-- what the written part says of the class -/
structure ExTxt (K : Frag) (prog : Program) (mg : Str → Option Value) (C D fI : Addr) (fs : List Str) : Prop where
  cls : ∃ nm q N bs sn sub ab col dd k0 k1 k2 k3 k5, K.lookup C = some (excClassObj nm q C N bs (.ref D :: veTail) true sn sub ab col dd k0 k1 k2 k3 k5 "ValueError.__new__")
  dI : alongIn K "__init__" (.ref D :: veTail) = some (some (.builtin "ValueError.__init__"))
  opq : nsIn K cStatics "thirdparty.any" = some none
  sup : mg "super" = none
  top : (prog.main.scope.names.lookup ("super" : Str)).isSome = false
  sa : findIn K (.ref C) "__setattr__" = some (some (.builtin "object.__setattr__"))
  noF : ∀ f ∈ fs, findIn K (.ref C) f = some none
  iC : findIn K (.ref C) "__init__" = some (some (.ref fI))
  tI : typeIn K (.ref fI) = some (.type "function")
  kC : keepIn K (.ref C) = true
  nd : (("self" : Str) :: fs).Nodup
  few : fs.length ≤ 100
  fn : InitFn K prog C fI fs

theorem lookup_nd {l : List (Str × Value)} {k : Str} {v : Value} (nd : (l.map (·.1)).Nodup) (h : (k, v) ∈ l) : l.lookup k = some v := by
  induction l with
  | nil => cases h
  | cons p l ih =>
    obtain ⟨k', v'⟩ := p
    rw [List.map_cons, List.nodup_cons] at nd
    rcases List.mem_cons.mp h with e | h2
    · cases e
      simp [List.lookup]
    · have ne : (k == k') = false := by
        rw [beq_eq_false_iff_ne]
        intro z
        subst z
        exact nd.1 (List.mem_map.mpr ⟨_, h2, rfl⟩)
      rw [List.lookup, ne]
      exact ih nd.2 h2
theorem lookup_binds {ns : List Str} {us : List Value} (nd : ns.Nodup) {k : Str} {v : Value} (h : (k, v) ∈ ns.zip us) : (ns.zip us).reverse.lookup k = some v := by
  refine lookup_nd ?_ (List.mem_reverse.mpr h)
  rw [List.map_reverse]
  refine (List.pairwise_reverse.mpr (List.Pairwise.imp Ne.symm (List.Pairwise.sublist (l₁ := (ns.zip us).map (fun x : Str × Value => x.1)) ?_ nd)))
  clear h nd
  induction ns generalizing us with
  | nil => simp
  | cons n ns ih =>
    cases us with
    | nil => simp
    | cons u us => exact (ih (us := us)).cons_cons n

theorem not_interactive {env : Env} (h : env.scope.kind = .function) : interactive env = false := by
  unfold interactive
  rw [h]
  rfl
abbrev excD (C t : Addr) (d : Option Addr) : Obj := { cls := .ref C, dict := d, data := .fields #[.ref t, .none, .none, .none, .bool false, .none] }
/-- the dict after the stores -/
def after : List Str → List Value → (Str → Option Value) → Str → Option Value
  | f :: fs, u :: us, m => after fs us (fun y => if y = f then some u else m y)
  | _, _, m => m

section
variable {prog : Program} {w : World} {M : Model} {A : Around} {E : Value → Shared → Prop} {R : Result → Shared → Prop}
/-- the wrapper called: the args are laid anew -/
theorem call_mw {h : Heap} {g : Array GenState} {d : Drawn} {t : Nat} {os : OsState} {nm q : Str} {C N : Addr} {bs bm : List Value} {hdct : Bool} {sn : List Str} {sub : List Value} {ab : Bool} {col : Option Bool} {dd : Option Addr} {k0 k1 k2 k3 k5 : Option Value}
    {u e t0 : Addr} {rest : List Value} {Q : Value → Shared → Prop}
    (hC : h.get? C = some (excClassObj nm q C N bs bm hdct sn sub ab col dd k0 k1 k2 k3 k5 "ValueError.__new__")) (he : h.get? e = some (excD C t0 none)) (hu : h.get? u = some (kxs_mw "ValueError.__init__" e)) (hrest : rest.length ≤ sizeLine)
    (hq : ∀ h' t1, (∀ b o, b ≠ e → h.get? b = some o → h'.get? b = some o) → h'.get? e = some (excD C t1 none) → Q .none ⟨h', g, d, t, os⟩) :
    wpAny (model prog w) A (call (.ref u) rest) Q E ⟨h, g, d, t, os⟩ := by
  refine wpAny_call (codeAny_of_tree ?_)
  show wpAny _ A.in1 (callAny (.ref u) ⟨rest, []⟩) _ _ _
  simp only [callAny]
  refine wpAny_bind (wpAny_load hu ?_)
  simp only [kxs_mw, show (Value.type "method-wrapper" == Value.type "method" || Value.type "method-wrapper" == Value.type "builtin_function_or_method" || Value.type "method-wrapper" == Value.type "method-wrapper") = true by decide, if_true]
  refine W.KFB.if_so (by decide) ?_
  refine wpAny_bind (check_bound_init F.excBase_ValueError.toExcCallFacts hC he rfl ?_)
  refine wpAny_bind (wpAny_pure (wpAny_pure ?_))
  refine ⟨plainId_quiet F.excBase_ValueError.init.plain _, codeAny_builtin F.excBase_ValueError.initEntry ?_⟩
  rw [Around.under_plainId F.excBase_ValueError.init.plain _]
  wp_walk
  refine hq _ h.objs.size (fun b o hb ho => ?_) ?_
  · rw [Heap.get?_update_other _ _ (Ne.symm hb)]
    exact Heap.get?_push_of_some _ ho
  · rw [Heap.get?_update_self _ (Heap.get?_push_of_some _ he) rfl]
    rfl
/-- self.f = f, for the fields left -/
theorem stores {K : Frag} {C x t1 L : Addr} {cd : ClassData} {env : Env} {ml : Str → Option Value} (he : env.locals = L) (hkind : env.scope.kind = .function) (hcd : clsIn K C = some cd) (hm : refsVE cd.mro = true) (hh : cd.hasDict = true)
    (sa : findIn K (.ref C) "__setattr__" = some (some (.builtin "object.__setattr__"))) (hxL : x ≠ L) (self : ml "self" = some (.ref x)) (hs : env.kindOf "self" = some .local) :
    ∀ {asg : List Stmt} {fs : List Str} {us : List Value}, Asgs asg fs → us.length = fs.length → (∀ f ∈ fs, findIn K (.ref C) f = some none) → (∀ p ∈ fs.zip us, ml p.1 = some p.2) → (∀ f ∈ fs, env.kindOf f = some .local ∧ (f == ("__debug__" : Str)) = false) →
    ∀ {s : Shared} {dx : Addr} {m0 : Str → Option Value} {nl : List Str} {Q : Flow → Shared → Prop}, K.In s.heap → s.heap.Ns L ml → s.heap.get? x = some (excD C t1 (some dx)) → s.heap.Ns1 dx m0 → Within m0 nl → nl.length + fs.length ≤ 1000 → dx ≠ L → (∀ b, K.lookup b ≠ none → b ≠ dx) →
    (∀ h' tk, (∀ b o, b ≠ dx → s.heap.get? b = some o → h'.get? b = some o) → h'.Ns1 dx (after fs us m0) → Q .next { s with heap := h', toks := tk }) → wpAny (model prog w) A (execs asg env) Q E s := by
  intro asg fs us ha
  induction ha generalizing us with
  | nil =>
    intro hl _ _ _ s dx m0 nl Q X hL hx hd hw hn ne hk hq
    exact wpAny_execs_nil (hq s.heap s.toks (fun b o _ e => e) hd)
  | @cons f a b c d r fs t ih =>
    intro hl hno hml hkf s dx m0 nl Q X hL hx hd hw hn ne hk hq
    cases us with
    | nil => cases hl
    | cons u us =>
      have hmf : ml f = some u := hml (f, u) (by simp)
      refine wpAny_execs_cons (plainObj_wpAny_Assign_Attribute ?_)
      have ld : ∀ {y : Str} {p : Pos} {v : Value} {Q : Value → Shared → Prop} {E : Value → Shared → Prop}, env.kindOf y = some .local → (y == ("__debug__" : Str)) = false → ml y = some v → Q v s → wpAny (model prog w) A (eval (.Name y p) env) Q E s := by
        intro y p v Q E hk2 hdb hv hQ
        exact wpAny_Name (wpAny_loadName_local hkind hk2 (by rw [he]; exact hL) hv hQ) hdb
      refine ld (hkf f (by simp)).1 (hkf f (by simp)).2 hmf (ld hs (by decide) self ?_)
      obtain ⟨oD, _, _, hoD, _, _⟩ := hd.count hw
      obtain ⟨hp, g, dr, tk, os⟩ := s
      refine set_plain X (ox := excD C t1 (some dx)) (od := some oD) ⟨hx, rfl, rfl, hoD⟩ sa ?_
      refine PySem.OEX.osa_old X hx hd hw (by simp at hn; omega) hcd hm hh (hno f (by simp)) (fun h' tk' k hn' => ?_)
      have kk : ∀ b o, b ≠ dx → hp.get? b = some o → h'.get? b = some o := k
      refine ih (us := us) (by simpa using hl) (fun f hf => hno f (List.mem_cons_of_mem _ hf)) (fun p hp => hml p (by simp at hp ⊢; exact .inr hp)) (fun f hf => hkf f (List.mem_cons_of_mem _ hf)) (s := ⟨h', g, dr, tk', os⟩) (dx := dx)
        (m0 := fun y => if y = f then some u else m0 y) (nl := f :: nl) (fun b o e => kk b o (hk b (by rw [e]; simp)) (X b o e)) ?_ (kk x _ ?_ hx) hn' (Within.cons f u hw) (by simp at hn ⊢; omega) ne hk fun h2 tk2 k2 n2 => ?_
      · obtain ⟨oL, es, ep, hoL, r⟩ := hL
        exact ⟨oL, es, ep, kk _ _ (Ne.symm ne) hoL, r⟩
      · intro z
        rw [← z] at hoD
        rw [hx] at hoD
        cases hoD
        obtain ⟨o, es, ep, e1, e2, _⟩ := hd
        rw [← z, hx] at e1
        cases e1
        cases e2
      · exact hq h2 tk2 (fun b o hb e => k2 b o hb (kk b o hb e)) n2
/-- what __init__ leaves of a fresh exception at x -/
structure InitEnd (h h' : Heap) (x C dx t1 : Addr) (m : Str → Option Value) : Prop where
  keep : ∀ b o, b ≠ x → h.get? b = some o → h'.get? b = some o
  obj : h'.get? x = some (excD C t1 (some dx))
  dbig : h.objs.size ≤ dx
  dne : dx ≠ x
  ns : h'.Ns1 dx m
theorem ex_init {K : Frag} {mg mb : Str → Option Value} {C D fI x t0 : Addr} {f : Str} {fs : List Str} {u : Value} {us : List Value} {s : Shared} (T : ExTxt K prog mg C D fI (f :: fs)) (X : K.In s.heap) (hlim : s.heap.NoLimit)
    (Gm : s.heap.Ns mainGlobals mg) (Gb : s.heap.Ns builtinsNs mb) (hsb : mb "super" = some (.type "super")) (hdb : ∀ y ∈ f :: fs, (y == ("__debug__" : Str)) = false)
    (hx : s.heap.get? x = some (excD C t0 none)) (hnx : K.lookup x = none) (hl : us.length = fs.length) (hroom : A.depth < recursionLimit)
    (hq : ∀ h' tk dx t1, InitEnd s.heap h' x C dx t1 (after fs us (fun y => if y = f then some u else none)) → R (.ok (.ret .none)) { s with heap := h', toks := tk }) :
    codeAny (model prog w) A (.call (.ref fI) ⟨.ref x :: u :: us, []⟩) R s := by
  obtain ⟨⟨oc, od, qual, params, txt, j, p0, p1, p2, p3, p4, p5, asg, scope, dV, kV, doc, pm, an, cda, cc, ct, osl, ho, hcd, ha, kf, kco, kge, ksu, kcl, klo, knc, ⟨ar, har, hself⟩, hbind, ⟨ccl, cdd, vs, ccs, file, tf, hcode, hvs, hfile⟩, ⟨cl, cld, csl, hcell⟩, hev⟩⟩ := T.fn
  obtain ⟨nm, q, N, bs, sn, sub, ab, col, dd, k0, k1, k2, k3, k5, hC⟩ := T.cls
  have hcls : clsIn K C = some { name := nm, bases := bs, mro := .ref C :: .ref D :: veTail, ns := N, qualname := q, hasDict := true, slotNames := sn, subclasses := sub, abstract := ab, collection := col, hasDel := false } := by unfold clsIn; rw [hC] <;> rfl
  have hmr : ∀ b, (Value.ref C :: Value.ref D :: veTail).contains b = true → mroIn K C b = some true := fun b hb => by
    unfold mroIn
    rw [hcls, Option.bind_some, if_neg (show ¬ (List.isEmpty (Value.ref C :: Value.ref D :: veTail) = true) from Bool.false_ne_true), hb]
  have len : (Value.ref x :: u :: us).length = (("self" : Str) :: f :: fs).length := by simp [hl]
  refine ks_codeAny_call_defAt (binds := (("self" : Str) :: f :: fs).zip (.ref x :: u :: us)) hroom (X _ _ ho) rfl hlim (codeRec_of X hcd) rfl (hbind s _ len) knc (fun y hy => klo y.1 (List.of_mem_zip hy).1) (fun h₁ hns hk₁ => ?_) kco kge kf
  have X₁ : K.In h₁ := X.keeps hk₁
  have hx₁ := hk₁ _ _ hx
  have xL : x ≠ s.heap.objs.size := Nat.ne_of_lt (Heap.lt_size hx)
  have bself : ((("self" : Str) :: f :: fs).zip (Value.ref x :: u :: us)).reverse.lookup ("self" : Str) = some (Value.ref x) := lookup_binds T.nd (by simp)
  obtain ⟨pl, hev⟩ := hev (ksEnv qual scope s.heap.objs.size fI (.ref cda) cc)
  refine ks_wpAt_execs_cons (ks_wpAt_Expr_any (hi := not_interactive kf) (ks_wpAt_MethodCall (pl := pl) ?_ hev))
  refine ks_wpAt_super_base (env := ksEnv qual scope s.heap.objs.size fI (.ref cda) cc) ksu kcl (by decide) rfl (X₁ _ _ ho) rfl har rfl (X₁ _ _ hcode) rfl hvs hfile T.top ?_
  refine ks_loadName_global kf ksu (loadGlobal_builtin (env := ksEnv qual scope s.heap.objs.size fI (.ref cda) cc) (Gm.keeps hk₁) T.sup (Gb.keeps hk₁) hsb ⟨rfl, ?_⟩)
  refine wpAny_loadName_free kf kcl rfl ⟨_, X₁ _ _ hcell, rfl⟩ ?_
  refine wpAny_loadName_local kf (by rw [hself]; exact klo _ (by simp)) hns (by rw [hself]; exact bself) ?_
  have hC₁ := X₁ _ _ hC
  obtain ⟨hh, g, dr, tk, os⟩ := s
  refine ks_wpAny_isType_cls hC₁ rfl ⟨rfl, ?_⟩
  refine ks_wpAny_call_super hC₁ rfl hx₁ rfl (fun c e => by cases e) (looks_mroIn X₁ (hmr _ (by simp))) (fun h₂ e₂ kk₂ => ?_)
  have X₂ : K.In h₂ := X₁.keeps kk₂
  have hx₂ := kk₂ _ _ hx₁
  have hxC : x ≠ C := fun z => by
    rw [z, hC] at hnx
    cases hnx
  have I₂ : InstAt h₂ x (excD C t0 none) C none := ⟨hx₂, rfl, rfl, trivial⟩
  have along := T.dI
  refine kxs_getMethod kxs_ValueError (l₀ := .ref C :: .ref D :: veTail) e₂ (looks_opaque X₂ T.opq) (fun A Q E s k q => wpAny_bind ((looks_clsIn X₂ hcls) A _ E s k (wpAny_pure q))) (by simp [List.dropWhile_cons]) X₂ along
    (I₂.type.andThen (looks_subIn X₂ (show subIn K (.ref C) (.type "ValueError") = some true from hmr _ (by simp)))) hxC (by decide) ?_
  have hu₃ : (h₂.push (kxs_mw "ValueError.__init__" x)).get? h₂.objs.size = some (kxs_mw "ValueError.__init__" x) := Heap.get?_push_size _ rfl
  have kk₃ : ∀ b o, h₂.get? b = some o → (h₂.push (kxs_mw "ValueError.__init__" x)).get? b = some o := fun b o e => Heap.get?_push_of_some _ e
  refine kxs_callWith (i := "ValueError.__init__") (x := x) rfl ?_
  refine evalArgs_plain (Calls.spliced_cons (Calls.Constant_str (pos := p3) (k := j) (Calls.spliced_nil ⟨hu₃, ?_⟩)))
  refine call_mw (kk₃ _ _ (kk₂ _ _ hC₁)) (kk₃ _ _ hx₂) hu₃ (by show 1 ≤ sizeLine; rw [sizeLine_eq]; decide) fun h₄ t1 kk₄ hx₄ => ?_
  have old : ∀ b o, b ≠ x → hh.get? b = some o → h₄.get? b = some o := fun b o hb e => kk₄ b o hb (kk₃ b o (kk₂ b o (hk₁ b o e)))
  have X₄ : K.In h₄ := fun b o e => old b o (fun z => by rw [z, hnx] at e; cases e) (X b o e)
  have hns₄ : h₄.Ns hh.objs.size (fun y => ((("self" : Str) :: f :: fs).zip (Value.ref x :: u :: us)).reverse.lookup y) := by
    obtain ⟨oL, es, ep, hoL, r⟩ := hns
    exact ⟨oL, es, ep, kk₄ _ _ (Ne.symm xL) (kk₃ _ _ (kk₂ _ _ hoL)), r⟩
  have big : hh.objs.size ≤ h₄.objs.size := by
    obtain ⟨oL, es, ep, hoL, r⟩ := hns₄
    exact Nat.le_of_lt (Heap.lt_size hoL)
  cases ha with
  | @cons _ a b c d r _ ha =>
    refine wpAt_of_wpAny (wpAny_execs_cons (plainObj_wpAny_Assign_Attribute ?_))
    have ld : ∀ {y : Str} {p : Pos} {v : Value} {Q : Value → Shared → Prop} {E : Value → Shared → Prop} {tk : Nat}, scope.names.lookup y = some .local → (y == ("__debug__" : Str)) = false → ((("self" : Str) :: f :: fs).zip (Value.ref x :: u :: us)).reverse.lookup y = some v → Q v ⟨h₄, g, dr, tk, os⟩ →
        wpAny (model prog w) (A.deeper (ksEnv qual scope hh.objs.size fI (.ref cda) cc)) (eval (.Name y p) (ksEnv qual scope hh.objs.size fI (.ref cda) cc)) Q E ⟨h₄, g, dr, tk, os⟩ := fun hk2 hd hv hQ => wpAny_Name (wpAny_loadName_local kf hk2 hns₄ hv hQ) hd
    refine ld (klo f (by simp)) (hdb f (by simp)) (lookup_binds (v := u) T.nd (by simp)) (ld (klo _ (by simp)) (by decide) bself ?_)
    refine set_plain X₄ (ox := excD C t1 none) (od := none) ⟨hx₄, rfl, rfl, trivial⟩ T.sa ?_
    have rve : refsVE (.ref C :: .ref D :: veTail) = true := by show refsVE veTail = true; decide +kernel
    refine exc_osa X₄ hx₄ hcls rve rfl (T.noF f (by simp)) (fun h₅ tk₅ dx k₅ dn dne hx₅ hn₅ => ?_)
    have hdL : dx ≠ hh.objs.size := by
      obtain ⟨oL, es, ep, hoL, r⟩ := hns₄
      exact Nat.ne_of_gt (Nat.lt_of_lt_of_le (Heap.lt_size hoL) dn)
    refine stores (ml := fun y => (((("self" : Str) :: f :: fs).zip (Value.ref x :: u :: us)).reverse.lookup y)) (s := ⟨h₅, g, dr, tk₅, os⟩) (env := ksEnv qual scope hh.objs.size fI (.ref cda) cc) rfl kf hcls rve rfl T.sa xL bself (klo _ (by simp)) ha hl (fun y hy => T.noF y (by simp [hy])) (fun p hp => lookup_binds (us := .ref x :: u :: us) (k := p.1) (v := p.2) T.nd (List.mem_cons_of_mem _ (List.mem_cons_of_mem _ hp)))
      (fun y hy => ⟨klo y (by simp [hy]), hdb y (by simp [hy])⟩) (dx := dx) (nl := [f]) (fun b o e => k₅ b o (fun z => by rw [z, hnx] at e; cases e) (X₄ b o e)) ?_ hx₅ hn₅ (Within.cons f u Within.nil) ?_ hdL ?_ fun h' tk' k' n' => ?_
    · obtain ⟨oL, es, ep, hoL, r⟩ := hns₄
      exact ⟨oL, es, ep, k₅ _ _ (Ne.symm xL) hoL, r⟩
    · have := T.few
      simp at this ⊢
      omega
    · intro b hb z
      cases e : K.lookup b with
      | none => exact hb e
      | some o =>
        exact absurd (Heap.lt_size (X b o e)) (by rw [z]; exact Nat.not_lt.mpr (Nat.le_trans big dn))
    · refine hq h' tk' dx t1 ⟨fun b o hb e => ?_, k' _ _ (Ne.symm dne) hx₅, Nat.le_trans big dn, dne, n'⟩
      refine k' b o ?_ (k₅ b o hb (old b o hb e))
      intro z
      exact absurd (Heap.lt_size e) (by rw [z]; exact Nat.not_lt.mpr (Nat.le_trans big dn))
/-- a made exception -/
structure Made (h h' : Heap) (e C d : Addr) (m : Str → Option Value) : Prop where
  keep : ∀ b o, h.get? b = some o → h'.get? b = some o
  new : h.objs.size ≤ e
  obj : ∃ t1, h'.get? e = some (excD C t1 (some d))
  dbig : h.objs.size ≤ d
  dne : d ≠ e
  ns : h'.Ns1 d m
theorem ex_made {K : Frag} {mg mb : Str → Option Value} {C D fI : Addr} {f : Str} {fs : List Str} {u : Value} {us : List Value} {s : Shared} (T : ExTxt K prog mg C D fI (f :: fs)) (X : K.In s.heap) (hlim : s.heap.NoLimit)
    (Gm : s.heap.Ns mainGlobals mg) (Gb : s.heap.Ns builtinsNs mb) (hsb : mb "super" = some (.type "super")) (hdb : ∀ y ∈ f :: fs, (y == ("__debug__" : Str)) = false) (hl : us.length = fs.length) (hroom : A.depth + 1 < recursionLimit)
    (hq : ∀ h' tk e d, Made s.heap h' e C d (after fs us (fun y => if y = f then some u else none)) → R (.ok (.ret (.ref e))) { s with heap := h', toks := tk }) :
    codeAny (model prog w) A (.call (.ref C) ⟨u :: us, []⟩) R s := by
  obtain ⟨nm, q, N, bs, sn, sub, ab, col, dd, k0, k1, k2, k3, k5, hC⟩ := T.cls
  obtain ⟨hp, g, dr, tk, os⟩ := s
  have k : ∀ b o, hp.get? b = some o → ((hp.push (kdv_tup (u :: us))).push (excO C hp.objs.size)).get? b = some o := fun b o e => Heap.get?_push_of_some _ (Heap.get?_push_of_some _ e)
  have hget : ((hp.push (kdv_tup (u :: us))).push (excO C hp.objs.size)).get? (hp.objs.size + 1) = some (excO C hp.objs.size) := by heap_get
  have hnx : K.lookup (hp.objs.size + 1) = none := by
    cases e : K.lookup (hp.objs.size + 1) with
    | none => rfl
    | some o =>
      have z : hp.get? (hp.objs.size + 1) = some o := X _ _ e
      exact absurd (Nat.lt_of_succ_lt (Heap.lt_size z)) (Nat.lt_irrefl _)
  have hsz : (u :: us).length ≤ sizeLine := by
    have := T.few
    simp at this
    rw [sizeLine_eq]
    simp
    omega
  have hcon : ∀ X : String, (Value.ref D :: veTail).contains (.type X) = veTail.contains (.type X) := fun X => by rw [List.contains_cons]; rfl
  refine call_own F.excBase_ValueError hcon (X _ _ hC) (looks_findIn X T.iC) (fun self => bind_fn X self T.tI) hsz ?_
  refine ex_init (s := ⟨(hp.push (kdv_tup (u :: us))).push (excO C hp.objs.size), g, dr, tk, os⟩) T (X.keeps k) (hlim.keeps k) (Gm.keeps k) (Gb.keeps k) hsb hdb hget hnx hl ?_ fun h' tk' dx t1 ⟨k', hx, dn, dne, hns⟩ => ?_
  · show A.depth + 1 < recursionLimit
    exact hroom
  · have old : ∀ b o, hp.get? b = some o → h'.get? b = some o := fun b o e => k' b o (Nat.ne_of_lt (Nat.lt_succ_of_lt (Heap.lt_size e))) (k b o e)
    have z : hp.objs.size + 1 + 1 ≤ dx := by
      first
        | (simpa only [Heap.size_push] using dn)
        | exact dn
        | (have q := dn; rw [Heap.size_push, Heap.size_push] at q; exact q)
    exact ⟨rfl, hq h' tk' (hp.objs.size + 1) dx ⟨old, Nat.le_succ _, ⟨_, hx⟩, Nat.le_trans (Nat.le_trans (Nat.le_succ _) (Nat.le_succ _)) z, dne, hns⟩⟩
end
end MiX
end PySem

end

section
set_option maxHeartbeats 4000000
namespace MiS
open PySem PySem.Spec L2
open PyProof.Rows hiding St
open PySem.MiX (ExTxt Made)
open Mi (AV HC AH AX Res AS RS)

/-! ### own exceptions, made -/
def zipR : List Str → List V → List (Str × V) → List (Str × V)
  | f :: fs, v :: vs, acc => zipR fs vs ((f, v) :: acc)
  | _, _, acc => acc
theorem rel_after : ∀ {fs : List Str} {vs : List V} {us : List Value} {acc : List (Str × V)} {m : Str → Option Value}, Vals vs us → (∀ g, RelO (acc.lookup g) (m g)) → ∀ g, RelO ((zipR fs vs acc).lookup g) (PySem.MiX.after fs us m g)
  | [], _, _, _, _, _, r => r
  | f :: fs, _, _, acc, m, .nil, r => r
  | f :: fs, _, _, acc, m, .cons (a := x) (b := y) rx rr, r => rel_after (fs := fs) (acc := (f, x) :: acc) (m := fun z => if z = f then some y else m z) rr (relO_put rx r)
def tMkX (C : Addr) (fs : List Str) (ta : TA) : St → Hp → XK → Prop := fun σ H Q => ta σ H fun vs H1 => vs.length = fs.length ∧ ∀ d, H1 d = none → Q (.ref C) (some d) (upd H1 d (.xd (zipR fs vs [])))
theorem pmk_x {X : Cx} {C D fI : Addr} {x f : Str} {fs : List Str} {a : Expr} {es : List Expr} {ta : TA} {p pos : Pos} (T : ExTxt X.K X.prog X.mg C D fI (f :: fs)) (hdb : ∀ y ∈ f :: fs, (y == ("__debug__" : Str)) = false) (gC : X.mg x = some (.ref C)) (eC : PySem.W.subIn X.K (.ref C) (.type "BaseException") = some true) (tC : PySem.W.typeIn X.K (.ref C) = some (.type "type"))
    (hd : X.A.depth + 1 < recursionLimit) (ha : PA X (a :: es) ta) (hg : Gl X x) (hdx : (x == ("__debug__" : Str)) = false := by decide)
    (he : starEach (a :: es) X.env = (false, eval a X.env) :: starEach es X.env := by rfl) (hpl : (backTo pos (starEach es X.env)).any (·.1) = false := by rfl) :
    PMk X (.Call (.Name x p) (a :: es) [] pos) (tMkX C (f :: fs) ta) := by
  intro pins s σ H Q I h
  refine wpAny_Call_Name_kw (ld_glob I hg gC ?_ hdx)
  refine PySem.W.callWith_K (h₀ := X.base) I.ok.mod.kin T.kC (thn (ha.run pos pins s σ H _ I h) fun us s1 hh => ?_) he hpl
  obtain ⟨vs, H1, I1, r1, ev, q1⟩ := hh
  refine ⟨I1.kIn, ?_⟩
  have hus : us.length = (f :: fs).length := by rw [← r1.length]; exact ev
  cases us with
  | nil => cases hus
  | cons u us =>
    show wpAny _ _ (call (.ref C) (u :: us)) _ _ _
    have hlim := I1.nolimit
    obtain ⟨mb, b1, b2⟩ := I1.mod.blt
    obtain ⟨hp, g, dr, tk, os⟩ := s1
    refine wpAny_call (PySem.MiX.ex_made T I1.kIn hlim (I1.mod.glob.keeps I1.bk) (b1.keeps I1.bk) ((b2 "super" (by decide)).trans PyProof.Rows.Boot.«super») hdb (by simpa using hus) hd fun h' tk' e d M => ?_)
    show MkP X pins σ Q (.ref e) ⟨h', g, dr, tk', os⟩
    obtain ⟨t1, hoe⟩ := M.obj
    have hns := M.ns
    obtain ⟨G', g1, g2⟩ := restrict h' fun b => decide (b ≠ e)
    have gk : ∀ b, b ≠ e → G'.get? b = h'.get? b := fun b hb => g1 b (decide_eq_true hb)
    have ge : G'.get? e = none := g2 e (by simp)
    have old : ∀ b o, hp.get? b = some o → G'.get? b = some o := fun b o q => (gk b (Nat.ne_of_lt (Nat.lt_of_lt_of_le (Heap.lt_size q) M.new))).trans (M.keep b o q)
    have ob : ObjOk X.prog X.w (upd H1 d (.xd (zipR (f :: fs) vs []))) G' d (.xd (zipR (f :: fs) vs [])) :=
      ⟨_, hns.at (fun o q => (gk d M.dne).trans q), fun y => by
        cases r1 with
        | cons rx rr => exact rel_after (acc := [(f, _)]) rr (relO_put (fs := []) (mA := fun _ => none) rx fun g => True.intro) y⟩
    have J : Inv X pins σ (upd H1 d (.xd (zipR (f :: fs) vs []))) ⟨G', g, dr, tk', os⟩ := I1.laid (t' := tk') old M.dbig ob
    refine ⟨e, _, _, ⟨G', g, dr, tk', os⟩, _, .ref C, some d, rfl, J, fun b o q => ?_, ge, hoe, ⟨rfl, rfl⟩, rfl, rfl, ?_, rfl, I1.bare, raises_own eC tC, q1 d (I1.hok.fresh M.dbig)⟩
    · by_cases hb : b = e
      · have q' : G'.get? b = some o := q
        rw [hb, ge] at q'; cases q'
      · exact (gk b hb).symm.trans q
    · rw [upd_ne (Ne.symm M.dne)]
      exact I1.hok.fresh M.new
/-! ### raise -/
theorem zipS_app : ∀ {as : List String} {bs : List String} {vs ws : List V}, as.length = vs.length → zipS (as ++ bs) (vs ++ ws) = zipS as vs ++ zipS bs ws
  | [], _, [], _, _ => by simp [zipS]
  | a :: as, _, v :: vs, _, h => by
    show zipS (a :: (as ++ _)) (v :: (vs ++ _)) = _
    simp only [zipS]
    rw [zipS_app (by simpa using h)]
    rfl
  | [], _, _ :: _, _, h => by cases h
  | _ :: _, _, [], _, h => by cases h
theorem zipR_rev : ∀ {fs : List String} {vs : List V} {acc : List (Str × V)}, fs.length = vs.length → zipR (fs.map PySem.Str.ofString) vs acc = zipS fs.reverse vs.reverse ++ acc
  | [], [], acc, _ => rfl
  | f :: fs, v :: vs, acc, h => by
    have h' : fs.length = vs.length := by simpa using h
    show zipR (fs.map PySem.Str.ofString) vs (((f : Str), v) :: acc) = _
    rw [zipR_rev h', List.reverse_cons, List.reverse_cons, zipS_app (by simpa using h')]
    simp [zipS]
  | [], _ :: _, _, h => by cases h
  | _ :: _, [], _, h => by cases h
section
variable {ct : Ct} {X : Cx} {W : WX} {pos : Pos} {st : Stmt}
theorem qs_raise {e : Expr} {C : Addr} {c : String} {fs : List String} {ma : Mi.A} (hc : X.calm = true) (tk : Takes X W) (hcl : ct.cl c = .ref C) (he : PMk X e (tMkX C (fs.map PySem.Str.ofString) (tM X.K ct W (RA X.K) ma))) :
    QS ct X W (.Raise (some e) none pos) (Mi.sRaise c fs ma) := PS.imp (ps_raise hc tk he) fun D σ H ⟨c', h, as, e, rh, rs, q⟩ => by
  subst e
  refine st_bind rh rs q fun d h1 a vs hx e1 rh1 rs1 r1 q1 => ?_
  split at q1
  · rename_i hl
    have hlen : a.length = vs.length := RepL.length r1
    refine ⟨by rw [List.length_map]; omega, fun dd hd => ?_⟩
    have e2 : Ext d (d.at (upd d.H dd (.xd (zipR (fs.map PySem.Str.ofString) vs [])))) := ext_new hd
    obtain ⟨n1, n2⟩ := rh1.new_ne hd
    have r2 : RepL X.K d a vs := r1
    refine q1 (d.at (upd d.H dd (.xd (zipR (fs.map PySem.Str.ofString) vs [])))) σ (.ref C) (some dd) rfl e2 (rh1.laid hd) (rs1.ext e2) ⟨hcl.symm, dd, vs.reverse, rfl, ?_, n1, n2, by simp [hl], RepL.ext e2 _ r2.reverse⟩
    show upd d.H dd _ dd = _
    rw [upd_same, zipR_rev (by omega), List.append_nil]
  · exact q1.elim
end

/-! ### the own exception classes -/
structure XOne (K : Fg) (v : Value) (flds : List Str) (C : Addr) : Prop where
  eq : v = .ref C
  xf : XfC K C
  cl : (PySem.W.clsIn K C).isSome = true
  ha : PySem.W.findIn K (.ref C) "__class__" = some (some (.builtin "object.__class__"))
  hn : PySem.W.specialIn K (.builtin "object.__class__") "__get__" = some (some (.builtin "getset_descriptor.__get__"))
  ht : PySem.W.takesIn K (.builtin "object.__class__") = some true
  hm : PySem.W.mroIn K C (.type "object") = some true
  no : ∀ f ∈ flds, PySem.W.findIn K (.ref C) f = some none
structure XTab (K : Fg) (ct : Ct) (sub : String → String → Option Bool) (flds : List Str) : Prop where
  one : ∀ c d b, sub c d = some b → ∃ C, XOne K (ct.cl c) flds C
  exm : ∀ c d b, sub c d = some b → PySem.W.exmOne K (ct.cl c) (ct.cl d) = some b
  kit : ∀ c d b, sub c d = some b → PySem.W.kitOne K (ct.cl c) (ct.cl d) = some b
section
variable {ct : Ct} {X : Cx} {pos : Pos}
theorem str_inj {a b : String} (h : PySem.Str.ofString a = PySem.Str.ofString b) : a = b := by
  rw [PySem.Str.ofString_eq_toList, PySem.Str.ofString_eq_toList] at h
  have h1 : a.toList.map Char.toNat = b.toList.map Char.toNat := by simpa using h
  have inj : ∀ (x y : List Char), x.map Char.toNat = y.map Char.toNat → x = y := by
    intro x
    induction x with
    | nil =>
      intro y e
      cases y with
      | nil => rfl
      | cons _ _ => cases e
    | cons c x ih =>
      intro y e
      cases y with
      | nil => cases e
      | cons d y =>
        obtain ⟨e1, e2⟩ := List.cons.inj e
        rw [Char.toNat_inj.mp e1, ih y e2]
  exact String.toList_inj.mp (inj _ _ h1)
theorem zipS_look {K : Fg} {c : Cn} : ∀ {ns : List String} {xs : List AV} {vs : List V} {f : String} {x : AV}, RepL K c xs vs → (ns.zip xs).lookup f = some x → ∃ v, (zipS ns vs).lookup (f : Str) = some v ∧ Rep K c x v
  | [], _, _, _, _, _, h => by simp at h
  | n :: ns, [], _, _, _, _, h => by simp at h
  | n :: ns, y :: xs, vs, f, x, r, h => by
    rw [repL_cons] at r
    obtain ⟨v, w, rfl, r1, r2⟩ := r
    show ∃ v', (((n : Str), v) :: zipS ns w).lookup (f : Str) = some v' ∧ _
    rw [List.zip_cons_cons, List.lookup] at h
    split at h
    · rename_i e
      cases h
      rw [beq_iff_eq] at e
      subst e
      exact ⟨v, by simp [List.lookup], r1⟩
    · rename_i e
      have e' : ((f : Str) == (n : Str)) = false := by
        rw [beq_eq_false_iff_ne] at e ⊢
        intro z
        exact e (str_inj z)
      rw [List.lookup, e']
      exact zipS_look r2 h
theorem HoldS.get {K : Fg} {c : Cn} {as : AS} {σ : St} {i : Nat} {a : Addr} {c0 : String} {dd : Addr} (h : HoldS K (ct.hold i a c0 dd) c as σ) :
    σ[i]? = some (some (.ref a)) ∧ ∃ ns xs vs, as[i]? = some (some (.xcp c0 ns xs)) ∧ c.H dd = some (.xd (zipS ns vs)) ∧ dd ∉ c.ρ ∧ dd ∉ c.X ∧ ns.length = xs.length ∧ RepL K c xs vs := h
/-- e.f -/
theorem q_xf {i : Nat} {a C : Addr} {c0 : String} {dd : Addr} {oe : Obj} {pn : List (Addr × Obj)} {W : WX} {n : Str} {f : String} {p : Pos} {flds : List Str} (T : XOne X.K (ct.cl c0) flds C) (hm : (f : Str) ∈ flds) (hz : Zc (ct.cl c0) (some dd) oe) (hf : ∃ vs, oe.data = .fields vs)
    (hN : X.N[i]? = some n) (hv : Vis X.env.scope n) (hd : (n == ("__debug__" : Str)) = false) (hcd : (n == ("__classdict__" : Str)) = false) (hb : attributeBase (.Name n p) (f : Str) X.env (eval (.Name n p) X.env) = eval (.Name n p) X.env) :
    QE (ct.hold i a c0 dd) (X.suite a ((a, oe) :: pn)) W (.Attribute (.Name n p) (f : Str) pos) (Mi.eXf f i) :=
  PE.imp (pe_xf (cls := ct.cl c0) (d := some dd) T.xf (T.no _ hm) hz hf (pe_var (i := i) hN hv hd hcd) hb) fun σ H Q ⟨c, h, as, e, rh, rs, q⟩ => by
    subst e
    obtain ⟨g1, ns, xs, vs, g2, g3, g4, g5, g6, g7⟩ := rs.2.2.get
    unfold Mi.eXf at q
    rw [g2] at q
    dsimp only at q
    split at q
    · rename_i v hl
      obtain ⟨w, h1, h2⟩ := zipS_look g7 hl
      exact ⟨_, g1, rfl, T.eq, dd, _, w, rfl, g3, h1, q c w rfl (.refl c) rh h2⟩
    · exact q.elim
/-- isinstance of the suite's exception, one class | a tuple of classes -/
def rIsX (K : Fg) (tv : Value) (a dd : Addr) : List V → Hp → VK → Prop := fun xs H Q => ∃ (C : Addr) (fs : List (Str × V)) (b : Bool), xs = [.ref a, .ref C] ∧ H dd = some (.xd fs) ∧ PySem.W.kitOne K tv (.ref C) = some b ∧ Q (.bl b) H
def rIsXT (K : Fg) (tv : Value) (a dd : Addr) : List V → Hp → VK → Prop := fun xs H Q => ∃ (tp : Addr) (cs : List Addr) (fs : List (Str × V)) (b : Bool), xs = [.ref a, .ref tp] ∧ H tp = some (.tup (cs.map V.ref)) ∧ H dd = some (.xd fs) ∧ PySem.W.kitAny K tv (cs.map Value.ref) = some b ∧ Q (.bl b) H
theorem inst_x {a C dd : Addr} {oe : Obj} {pn pins : List (Addr × Obj)} {v : Value} {flds : List Str} {σ : St} {H : Hp} {s : Shared} {fs : List (Str × V)} (T : XOne X.K v flds C) (hz : Zc v (some dd) oe) (hf : ∃ vs, oe.data = .fields vs)
    (I : Inv (X.suite a ((a, oe) :: pn)) pins σ H s) (e : H dd = some (.xd fs)) : ∃ od, PySem.W.InstAt s.heap a oe C od := by
  obtain ⟨hget, _⟩ := I.pin (a, oe) (List.mem_append.mpr (.inl List.mem_cons_self))
  obtain ⟨vs, hv⟩ := hf
  have hx : ObjOk X.prog X.w H s.heap dd (.xd fs) := I.hok dd _ e
  obtain ⟨mA, hns, hr⟩ := hx
  obtain ⟨od, es, ep, ho, _⟩ := hns
  exact ⟨some od, hget, hz.1.trans T.eq, by unfold PySem.W.notCls; rw [hv] <;> rfl, by rw [hz.2]; exact ho⟩
theorem call_isX {a C dd : Addr} {oe : Obj} {pn : List (Addr × Obj)} {v : Value} {flds : List Str} (T : XOne X.K v flds C) (hz : Zc v (some dd) oe) (hf : ∃ vs, oe.data = .fields vs) : CallR (X.suite a ((a, oe) :: pn)) (.builtin "isinstance") (rIsX X.K v a dd) := by
  intro pins s σ H xs us Q I r h
  obtain ⟨D, fs, b, rfl, e, hk, q⟩ := h
  cases r with
  | cons rx rr =>
    cases rr with
    | cons rt rr =>
      cases rr
      cases rx
      cases rt
      obtain ⟨od, J⟩ := inst_x T hz hf I e
      rw [T.eq] at hk
      exact PySem.W.kia_one (PySem.W.kitx_exc T.cl T.xf.ga T.xf.gg T.xf.exC T.ha T.hn T.ht T.hm) I.kIn J hk (fun z => nomatch z) fun tk => ⟨.bl b, H, I.kept (t' := tk) fun _ _ z => z, rfl, q⟩
theorem vals_refs : ∀ {cs : List Addr} {us : List Value}, Vals (cs.map V.ref) us → us = cs.map Value.ref
  | [], _, .nil => rfl
  | c :: cs, _, .cons r t => by
    rw [vals_refs t]
    cases (show _ = Value.ref c from r)
    rfl
theorem call_isXT {a C dd : Addr} {oe : Obj} {pn : List (Addr × Obj)} {v : Value} {flds : List Str} (T : XOne X.K v flds C) (hz : Zc v (some dd) oe) (hf : ∃ vs, oe.data = .fields vs) : CallR (X.suite a ((a, oe) :: pn)) (.builtin "isinstance") (rIsXT X.K v a dd) := by
  intro pins s σ H xs us Q I r h
  obtain ⟨tp, cs, fs, b, rfl, hT, e, hk, q⟩ := h
  cases r with
  | cons rx rr =>
    cases rr with
    | cons rt rr =>
      cases rr
      cases rx
      cases rt
      obtain ⟨od, J⟩ := inst_x T hz hf I e
      obtain ⟨_, its, rv, o, h1, h2, n, h3⟩ := (show ObjOk X.prog X.w H s.heap tp (.tup (cs.map V.ref)) from I.hok tp _ hT)
      have e3 := vals_refs rv
      subst e3
      obtain ⟨oc, odd, dt, sl⟩ := o
      simp only at h2 h3
      subst h2 h3
      rw [T.eq] at hk
      exact PySem.W.kia_tup (PySem.W.kitx_exc T.cl T.xf.ga T.xf.gg T.xf.exC T.ha T.hn T.ht T.hm) I.kIn J h1 hk (fun z => nomatch z) fun tk => ⟨.bl b, H, I.kept (t' := tk) fun _ _ z => z, rfl, q⟩
/-- names of own classes -/
inductive Globs (X : Cx) (cl : String → Value) : List Expr → List String → List Addr → Prop
  | nil : Globs X cl [] [] []
  | cons {y : Str} {p : Pos} {c : String} {C : Addr} {es : List Expr} {cs : List String} {Cs : List Addr} (hg : Gl X y) (hm : X.mg y = some (.ref C)) (hc : cl c = .ref C) (hd : (y == ("__debug__" : Str)) = false) (hs : starEach (.Name y p :: es) X.env = (false, eval (.Name y p) X.env) :: starEach es X.env) (r : Globs X cl es cs Cs) :
    Globs X cl (.Name y p :: es) (c :: cs) (C :: Cs)
theorem pa_globs {cl : String → Value} {es : List Expr} {cs : List String} {Cs : List Addr} (g : Globs X cl es cs Cs) : PA X es (fun _ H Q => Q (Cs.map V.ref) H) := by
  induction g with
  | nil => exact pa_nil
  | cons hg hm hc hd hs r ih => exact PA.imp (pa_cons (pe_glob hg hm (v := .ref _) rfl hd) ih hs) fun _ _ _ h => h
theorem Globs.map {cl : String → Value} {es : List Expr} {cs : List String} {Cs : List Addr} (g : Globs X cl es cs Cs) : cs.map cl = Cs.map Value.ref := by
  induction g with
  | nil => rfl
  | cons hg hm hc hd hs r ih => rw [List.map_cons, List.map_cons, hc, ih]
theorem kit_any {K : Fg} {sub : String → String → Option Bool} {flds : List Str} (tab : XTab K ct sub flds) {c0 : String} : ∀ {cs : List String} {b : Bool}, Mi.orAll (cs.map (sub c0)) = some b → PySem.W.kitAny K (ct.cl c0) (cs.map ct.cl) = some b
  | [], b, h => by cases h; rfl
  | c :: cs, b, h => by
    rw [List.map_cons] at h ⊢
    cases z : sub c0 c with
    | none =>
      rw [z] at h
      cases h
    | some b1 =>
      rw [z] at h
      obtain ⟨b2, h2, rfl⟩ := Option.map_eq_some_iff.mp (show (Mi.orAll (cs.map (sub c0))).map (b1 || ·) = some b from h)
      unfold PySem.W.kitAny
      rw [tab.kit _ _ _ z]
      cases b1 with
      | true => rfl
      | false =>
        dsimp only
        rw [kit_any tab h2, Bool.false_or]
variable {sub : String → String → Option Bool}
theorem q_xis {i : Nat} {a C D : Addr} {c0 d0 : String} {dd : Addr} {oe : Obj} {pn : List (Addr × Obj)} {W : WX} {n y : Str} {p p1 p2 : Pos} {flds : List Str} (tab : XTab X.K ct sub flds) (T : XOne X.K (ct.cl c0) flds C) (hz : Zc (ct.cl c0) (some dd) oe) (hf : ∃ vs, oe.data = .fields vs)
    (hg : Gl X "isinstance") (hm : X.mg "isinstance" = none) (hgy : Gl X y) (hmy : X.mg y = some (.ref D)) (hcy : ct.cl d0 = .ref D) (hdy : (y == ("__debug__" : Str)) = false)
    (hN : X.N[i]? = some n) (hv : Vis X.env.scope n) (hd : (n == ("__debug__" : Str)) = false) (hcd : (n == ("__classdict__" : Str)) = false)
    (he : starEach (.Name n p1 :: [.Name y p2]) X.env = (false, eval (.Name n p1) X.env) :: starEach [.Name y p2] X.env := by rfl) (he2 : starEach [.Name y p2] X.env = (false, eval (.Name y p2) X.env) :: starEach [] X.env := by rfl)
    (hpl : (backTo pos (starEach [.Name y p2] X.env)).any (·.1) = false := by rfl) :
    QE (ct.hold i a c0 dd) (X.suite a ((a, oe) :: pn)) W (.Call (.Name "isinstance" p) [.Name n p1, .Name y p2] [] pos) (Mi.eXis sub [d0] i) :=
  PE.imp (pe_callB (X := X.suite a ((a, oe) :: pn)) (call_isX T hz hf) hg hm (by decide +kernel) (pa_cons (pe_var (i := i) hN hv hd hcd) (pa_cons (pe_glob hgy hmy (v := .ref D) rfl hdy) pa_nil he2) he) (by decide) (by decide) he hpl) fun σ H Q ⟨c, h, as, e, rh, rs, q⟩ => by
    subst e
    obtain ⟨g1, ns, xs, vs, g2, g3, g4, g5, g6, g7⟩ := rs.2.2.get
    unfold Mi.eXis at q
    rw [g2] at q
    dsimp only at q
    split at q
    · rename_i b hb
      have hk := kit_any tab hb
      have h1 : sub c0 d0 = some b := by
        cases z : sub c0 d0 with
        | none => simp [Mi.orAll, z] at hb
        | some b1 =>
          simp [Mi.orAll, z] at hb
          rw [hb]
      refine ⟨_, g1, D, _, b, rfl, g3, ?_, q c _ rfl (.refl c) rh (rep_bl.mpr rfl)⟩
      rw [← hcy]
      exact tab.kit _ _ _ h1
    · exact q.elim
theorem q_xisT {i : Nat} {a C : Addr} {c0 : String} {ds : List String} {Ds : List Addr} {dd : Addr} {oe : Obj} {pn : List (Addr × Obj)} {W : WX} {n : Str} {p p1 p2 : Pos} {k2 : Nat} {es : List Expr} {flds : List Str} (tab : XTab X.K ct sub flds) (T : XOne X.K (ct.cl c0) flds C) (hz : Zc (ct.cl c0) (some dd) oe) (hf : ∃ vs, oe.data = .fields vs)
    (hg : Gl X "isinstance") (hm : X.mg "isinstance" = none) (gl : Globs (X.suite a ((a, oe) :: pn)) ct.cl es ds Ds) (hl : Ds.length ≤ 100)
    (hN : X.N[i]? = some n) (hv : Vis X.env.scope n) (hd : (n == ("__debug__" : Str)) = false) (hcd : (n == ("__classdict__" : Str)) = false)
    (he : starEach (.Name n p1 :: [.Tuple es k2 p2]) X.env = (false, eval (.Name n p1) X.env) :: starEach [.Tuple es k2 p2] X.env := by rfl) (he2 : starEach [.Tuple es k2 p2] X.env = (false, eval (.Tuple es k2 p2) X.env) :: starEach [] X.env := by rfl)
    (hpl : (backTo pos (starEach [.Tuple es k2 p2] X.env)).any (·.1) = false := by rfl) :
    QE (ct.hold i a c0 dd) (X.suite a ((a, oe) :: pn)) W (.Call (.Name "isinstance" p) [.Name n p1, .Tuple es k2 p2] [] pos) (Mi.eXis sub ds i) :=
  PE.imp (pe_callB (X := X.suite a ((a, oe) :: pn)) (call_isXT T hz hf) hg hm (by decide +kernel) (pa_cons (pe_var (i := i) hN hv hd hcd) (pa_cons (pe_tup (pa_globs gl)) pa_nil he2) he) (by decide) (by decide) he hpl) fun σ H Q ⟨c, h, as, e, rh, rs, q⟩ => by
    subst e
    obtain ⟨g1, ns, xs, vs, g2, g3, g4, g5, g6, g7⟩ := rs.2.2.get
    unfold Mi.eXis at q
    rw [g2] at q
    dsimp only at q
    split at q
    · rename_i b hb
      have hk := kit_any tab hb
      rw [gl.map] at hk
      refine ⟨_, g1, by rw [List.length_map, sizeLine_eq]; omega, fun tp hp => ⟨tp, Ds, _, b, rfl, upd_same, (upd_ne (ne_of_none g3 hp)).trans g3, hk, ?_⟩⟩
      exact q (c.at (upd c.H tp (.tup (Ds.map V.ref)))) _ rfl (ext_new hp) (rh.laid hp) (rep_bl.mpr rfl)
    · exact q.elim
/-! ### try -/
inductive HdsQ (ct : Ct) (X : Cx) (flds : List Str) : List ExceptHandler → List Mi.Hd → Prop
  | nil : HdsQ ct X flds [] []
  | plain {x : Str} {c : String} {s : Mi.S} {b₀ : Stmt} {suite : List Stmt} {np pos' : Pos} {hds : List ExceptHandler} {l : List Mi.Hd} (hc : Names X x (ct.cl c))
      (hsu : ∀ (a : Addr) (oe : Obj) (cls : Value) (d : Option Addr) (pn : List (Addr × Obj)), Zc cls d oe → (∃ vs, oe.data = .fields vs) → QSs ct (X.suite a ((a, oe) :: pn)) W0 (b₀ :: suite) s) (r : HdsQ ct X flds hds l) :
      HdsQ ct X flds (.ExceptHandler (some (.Name x np)) none (b₀ :: suite) pos' :: hds) ((c, none, s) :: l)
  | named {x n : Str} {i : Nat} {c : String} {s : Mi.S} {b₀ : Stmt} {suite : List Stmt} {np pos' : Pos} {hds : List ExceptHandler} {l : List Mi.Hd} (hc : Names X x (ct.cl c)) (hi : X.N[i]? = some n) (hln : X.env.kindOf n = some .local)
      (hsu : ∀ (a C : Addr) (oe : Obj) (c0 : String) (dd : Addr) (pn : List (Addr × Obj)), XOne X.K (ct.cl c0) flds C → Zc (ct.cl c0) (some dd) oe → (∃ vs, oe.data = .fields vs) → QSs (ct.hold i a c0 dd) (X.suite a ((a, oe) :: pn)) W0 (b₀ :: suite) s) (r : HdsQ ct X flds hds l) :
      HdsQ ct X flds (.ExceptHandler (some (.Name x np)) (some n) (b₀ :: suite) pos' :: hds) ((c, some i, s) :: l)
/-- what the clauses wish of an exception of the body -/
def wTry (K : Fg) (ct : Ct) (Wout : WX) (D : Ends) (sub : String → String → Option Bool) (l : List Mi.Hd) : WX := fun cls d σ H => ∃ (c : Cn) (h : AH) (as : AS) (e : AX), c.H = H ∧ RepH K c h ∧ RepS K ct c as σ ∧ RepX K ct c cls d e ∧ PostS K ct Wout D c (Mi.handle sub e as h l)
theorem RepS.enter {K : Fg} {ct : Ct} {c : Cn} {as : AS} {σ : St} {i : Nat} {a : Addr} {cls : Value} {od : Option Addr} {e : AX} (h0 : ct.xa = none) (h : RepS K ct c as σ) (hi : i < σ.length) (hx : RepX K ct c cls od e) :
    ∃ dd, od = some dd ∧ RepS K (ct.hold i a e.cls dd) c (as.set i (some (.xcp e.cls e.ns e.xs))) (σ.set i (some (.ref a))) := by
  obtain ⟨hc, dd, vs, rfl, h3, h4, h5, h6, h7⟩ := hx
  refine ⟨dd, rfl, by simp [h.1], fun j x hj hy => ?_, List.getElem?_set_self hi, e.ns, e.xs, vs, List.getElem?_set_self (by rw [h.1]; exact hi), h3, h4, h5, h6, h7⟩
  have ne : i ≠ j := fun z => by
    subst z
    simp [Ct.ok, Ct.hold] at hj
  rw [List.getElem?_set_ne ne] at hy ⊢
  exact h.2.1 j x (by unfold Ct.ok; rw [h0]) hy
theorem RepS.leave {K : Fg} {ct : Ct} {c : Cn} {as : AS} {σ : St} {i : Nat} {a : Addr} {c0 : String} {dd : Addr} (h0 : ct.xa = none) (h : RepS K (ct.hold i a c0 dd) c as σ) : RepS K ct c (as.set i none) (σ.set i none) := by
  refine ⟨by simp [h.1], fun j x hj hy => ?_, by unfold HoldS; rw [h0]; trivial⟩
  by_cases e : i = j
  · subst e
    by_cases hi : i < as.length
    · rw [List.getElem?_set_self hi] at hy
      cases hy
    · rw [List.getElem?_eq_none (by simpa using hi)] at hy
      cases hy
  · rw [List.getElem?_set_ne e] at hy ⊢
    exact h.2.1 j x (by simp [Ct.ok, Ct.hold, e]) hy
/-- the ends of a suite, by the ends behind it -/
theorem suite_plain {K : Fg} {D : Ends} {c : Cn} {Wout : WX} {r : RS} (h : PostS K ct Wout D c (Mi.suEnd none r)) : PostS K ct W0 D c r := by
  cases r with
  | nx as h' => exact h
  | rt v h' => exact h
  | bk as h' => exact h
  | ct as h' => exact h
  | ex e as h' => exact h.elim
  | no => exact h.elim
theorem suite_named {K : Fg} {D : Ends} {c : Cn} {Wout : WX} {r : RS} {i : Nat} {a : Addr} {c0 : String} {dd : Addr} (h0 : ct.xa = none) (h : PostS K ct Wout D c (Mi.suEnd (some i) r)) :
    PostS K (ct.hold i a c0 dd) W0 { nx := fun σ' H' => D.nx (σ'.set i none) H', rt := D.rt, bk := fun σ' H' => D.bk (σ'.set i none) H', ct := fun σ' H' => D.ct (σ'.set i none) H' } c r := by
  cases r with
  | nx as h' => exact fun d σ hx e rh rs => h d _ hx e rh (rs.leave h0)
  | rt v h' => exact h
  | bk as h' => exact fun d σ hx e rh rs => h d _ hx e rh (rs.leave h0)
  | ct as h' => exact fun d σ hx e rh rs => h d _ hx e rh (rs.leave h0)
  | ex e as h' => exact h.elim
  | no => exact h.elim
section
variable {body : List Stmt} {h₀ : ExceptHandler} {hds : List ExceptHandler} {l : List Mi.Hd} {mb : Mi.S} {Wout : WX} {flds : List Str}
theorem qs_try (tab : XTab X.K ct sub flds) (hxa : ct.xa = none) (hs : X.stack = X.env :: X.outer) (hf : X.env.frame = some X.env.locals) (hN : X.N.Nodup) (tk : Takes X Wout)
    (hb : ∀ (W : WX) (pn : List (Addr × Obj)) (xe : Value → Shared → Prop), Takes (X.tr pn xe) W → PassesOwn (model X.prog X.w) X.A X.env xe → QSs ct (X.tr pn xe) W body mb)
    (hh : HdsQ ct X flds (h₀ :: hds) l) : QS ct X Wout (.Try body (h₀ :: hds) [] [] pos) (Mi.sTry sub mb l) := by
  refine ⟨fun pins s σ H D I hm => ?_⟩
  have ok := I.ok
  have hfr : X.A.frames = some (X.env :: X.outer) := by rw [ok.frames, hs]
  have hm2 : sM X.K ct (wTry X.K ct Wout D sub l) mb D σ H := by
    obtain ⟨c, h, as, e, rh, rs, q⟩ := hm
    refine ⟨c, h, as, e, rh, rs, ?_⟩
    unfold Mi.sTry at q
    cases z : mb as h with
    | nx as1 h1 => rw [z] at q; exact q
    | rt v h1 => rw [z] at q; exact q
    | bk as1 h1 => rw [z] at q; exact q
    | ct as1 h1 => rw [z] at q; exact q
    | ex e1 as1 h1 =>
      rw [z] at q
      exact fun d σ1 cls od hx e2 rh1 rs1 rx => ⟨d, h1, as1, e1, rfl, rh1, rs1, rx, PostS.mono hx e2 q⟩
    | no => rw [z] at q; exact q
  refine wpAny_Try_except ?_
  refine wpAny_mono ((hb (wTry X.K ct Wout D sub l) (X.pn ++ pins) (fun e s₁ => wpAny (model X.prog X.w) X.A (noteFrame e X.env) (fun _ s₂ => wpAny (model X.prog X.w) X.A (setFlight e none) (fun _ s₃ =>
    wpAny (model X.prog X.w) X.A (handleBy e X.env (h₀ :: hds)) (SP X pins D) X.xe s₃) X.xe s₂) X.xe s₁) (fun u s' xx => ?_) PassesOwn.looking).run [] s σ H D (I.toTry _) hm2) (fun f s1 hsp => ?_) (fun e s1 he => he)
  · -- the catch
    obtain ⟨a, B, sI, pins', σ', H', cls, d, rfl, J', nb, up, sky, na, os, ag, w⟩ := xx
    have J : Inv X pins σ' H' sI := J'.ofTry ok
    have sky' : Sky B (X.env :: X.outer) a (Zc cls d) X.env.locals s'.heap := by rw [← hs]; exact sky
    show wpAny (model X.prog X.w) X.A (noteFrame (.ref a) X.env) _ _ _
    refine Sky.land Zc.steady hfr hf sky' fun h3 fl3 up3 => ?_
    have J3 : Inv X pins σ' H' { s' with heap := h3 } := J.landed nb fl3.1 (up.trans up3) os ag
    obtain ⟨oe3, vs3, he3, hz3, hd3⟩ := fl3.there
    have notFr : ∀ {h : Heap} {o : Obj} {vs : Array Value}, h.FunFrames B (X.env :: X.outer) → h.get? a = some o → o.data = .fields vs → a ∉ frs (X.env :: X.outer) := fun {h o vs} ff e dd hm => by
      obtain ⟨_, o', e', hnf⟩ := ff.mem hm
      rw [e] at e'; cases e'
      exact hnf _ dd
    have nfr := notFr fl3.2.2.1 he3 hd3
    have nL : a ≠ X.env.locals := fun z => nfr (List.mem_filterMap.mpr ⟨X.env, List.mem_cons_self, by rw [hf, z]⟩)
    have nF : a ∉ X.fs := fun hm => by
      obtain ⟨e, he, q⟩ := List.mem_filterMap.mp hm
      exact nfr (List.mem_filterMap.mpr ⟨e, List.mem_cons_of_mem _ he, q⟩)
    have S3 := J3.suite he3 hd3 na nL nF
    obtain ⟨c, h, as, e, ec, rh, rs, rx, q⟩ := w
    subst ec
    have hlen : σ'.length = X.N.length := J.len
    have go : ∀ {hds' : List ExceptHandler} {l' : List Mi.Hd}, HdsQ ct X flds hds' l' → PostS X.K ct Wout D c (Mi.handle sub e as h l') →
        wpAny (model X.prog X.w) X.A (handleBy (.ref a) X.env hds') (SP X pins D) X.xe { s' with heap := h3 } := by
      intro hds' l' hk
      have LT : PySem.W.Looks (model X.prog X.w) h3 (typeOf (.ref a)) cls := fun A Q E s k q => wpAny_typeOf_ref (k _ _ he3) (by rw [hz3.1]; exact q)
      have test : ∀ {x : Str} {cv : Value} {np : Pos} {Q : Value → Shared → Prop} {E : Value → Shared → Prop}, Names X x cv → Q cv { s' with heap := h3 } → wpAny (model X.prog X.w) (X.A.mark (some (.ref a))) (eval (.Name x np) X.env) Q E { s' with heap := h3 } := fun {x cv np Q E} hc q => by
        obtain ⟨hg, hdbg, hm | ⟨hm, hv, hnn⟩⟩ := hc
        · exact ld_glob (X := X.suite a ((a, oe3) :: (X.pn ++ pins))) S3 hg hm q hdbg
        · exact ld_blt (X := X.suite a ((a, oe3) :: (X.pn ++ pins))) S3 hg hm hv q hnn hdbg
      induction hk with
      | nil =>
        intro w
        refine wpAny_handleBy_nil ?_
        obtain ⟨k1, k2, k3, oe, vs, T, oT, ts', he, hz, hd, h1, hr⟩ := id fl3
        unfold PySem.passOn
        refine wpAny_bind (wpAny_field he hd h1 ?_)
        rw [if_neg (show ¬ ((Value.ref T == Value.none) = true) from by simp)]
        have fin : wpAny (model X.prog X.w) X.A (setFlight (.ref a) X.env.frame) (fun _ s4 => wpAny (model X.prog X.w) X.A (throw (.ref a) : Sem Flow) (SP X pins D) X.xe s4) X.xe { s' with heap := h3 } := by
          rw [hf]
          refine HandSPX.setFlight_upZ fl3 fun h4 hh4 up4 => wpAny_throw (tk _ _ ?_)
          exact ⟨a, B, sI, pins, σ', c.H, cls, d, rfl, J, nb, (up.trans up3).trans up4, .inr (.inr (by rw [hs]; exact hh4)), na, os, ag, w c σ' cls d rfl (.refl c) rh rs rx⟩
        first
          | exact wpAny_bind (wpAny_pure (wpAny_bind fin))
          | exact wpAny_bind fin
      | @plain x cn s b₀ suite np pos' hds2 l2 hc hsu r ih =>
        intro w
        unfold Mi.handle at w
        cases hsb : sub e.cls cn with
        | none => rw [hsb] at w; exact w.elim
        | some b =>
          rw [hsb] at w
          have hb1 := tab.exm _ _ _ hsb
          rw [← rx.1] at hb1
          have LM := PySem.W.exm_one (M := model X.prog X.w) (J3.kIn) LT hb1
          refine wpAny_handleBy_cons (codeAny_handlers_test ?_) (by intro q; cases q)
          refine test hc (LM.here ?_)
          cases b with
          | true =>
            refine codeAny_handlers_suite ?_
            refine HandSPX.lands_againZ fl3 fun h4 fl4 up4 => ?_
            have J4 : Inv X pins σ' c.H { s' with heap := h4 } := J.landed nb fl4.1 ((up.trans up3).trans up4) os ag
            obtain ⟨oe4, vs4, he4, hz4, hd4⟩ := fl4.there
            have S4 := J4.suite he4 hd4 na nL nF
            refine wpAny_mono ((hsu a oe4 cls d (X.pn ++ pins) hz4 ⟨_, hd4⟩).run [] _ _ c.H D S4 ⟨c, h, as, rfl, rh, rs, suite_plain w⟩) (fun f s6 hsp => ?_) (fun _ _ z => False.elim z)
            cases f with
            | next =>
              obtain ⟨σ6, H6, S6, q6⟩ := hsp
              exact ⟨_, _, S6.unsuite ok, q6⟩
            | brk =>
              obtain ⟨σ6, H6, S6, q6⟩ := hsp
              exact ⟨_, _, S6.unsuite ok, q6⟩
            | cont =>
              obtain ⟨σ6, H6, S6, q6⟩ := hsp
              exact ⟨_, _, S6.unsuite ok, q6⟩
            | ret u =>
              obtain ⟨v6, σ6, H6, S6, r6, q6⟩ := hsp
              exact ⟨_, _, _, S6.unsuite ok, r6, q6⟩
          | false =>
            show wpAny _ X.A (handleBy (.ref a) X.env hds2) _ _ _
            exact ih w
      | @named x n i cn s b₀ suite np pos' hds2 l2 hc hi hln hsu r ih =>
        intro w
        unfold Mi.handle at w
        cases hsb : sub e.cls cn with
        | none => rw [hsb] at w; exact w.elim
        | some b =>
          rw [hsb] at w
          have hb1 := tab.exm _ _ _ hsb
          obtain ⟨C, T1⟩ := tab.one _ _ _ hsb
          rw [← rx.1] at hb1
          have LM := PySem.W.exm_one (M := model X.prog X.w) (J3.kIn) LT hb1
          refine wpAny_handleBy_cons (codeAny_handlers_test ?_) (by intro q; cases q)
          refine test hc (LM.here ?_)
          cases b with
          | true =>
            refine codeAny_handlers_suite_as ?_
            refine HandSPX.lands_againZ fl3 fun h4 fl4 up4 => ?_
            have J4 : Inv X pins σ' c.H { s' with heap := h4 } := J.landed nb fl4.1 ((up.trans up3).trans up4) os ag
            obtain ⟨oe4, vs4, he4, hz4, hd4⟩ := fl4.there
            have S4 := J4.suite he4 hd4 na nL nF
            have hil : i < σ'.length := by
              rw [hlen]
              exact (List.getElem?_eq_some_iff.mp hi).1
            obtain ⟨dd, hod, rs2⟩ := rs.enter (a := a) hxa hil rx
            refine store_ok (X := X.suite a ((a, oe4) :: (X.pn ++ pins))) (v := .ref a) S4 hN hi (.inl hln) rfl (fun s5 S5 => ?_) (.inr hln)
            refine wpAny_mono ((hsu a C oe4 e.cls dd (X.pn ++ pins) T1 (by rw [← hod, ← rx.1]; exact hz4) ⟨_, hd4⟩).run [] s5 _ c.H { nx := fun σ' H' => D.nx (σ'.set i none) H', rt := D.rt, bk := fun σ' H' => D.bk (σ'.set i none) H', ct := fun σ' H' => D.ct (σ'.set i none) H' } S5
              ⟨c, h, _, rfl, rh, rs2, suite_named hxa w⟩) (fun f s6 hsp => ?_) (fun _ _ z => False.elim z)
            have end_ : ∀ {σ6 : St} {H6 : Hp} {Q : Shared → Prop}, Inv (X.suite a ((a, oe4) :: (X.pn ++ pins))) [] σ6 H6 s6 → (∀ s7, Inv X pins (σ6.set i none) H6 s7 → Q s7) →
                wpAny (model X.prog X.w) X.A (do bindName X.env n .none; unbindBehindTheSuite X.env n pos') (fun _ s7 => Q s7) X.xe s6 := fun {σ6 H6 Q} S6 hq => gone_ok (S6.unsuite ok) hN hi hln hq
            cases f with
            | next =>
              obtain ⟨σ6, H6, S6, q6⟩ := hsp
              exact end_ S6 fun s7 J7 => ⟨_, _, J7, q6⟩
            | brk =>
              obtain ⟨σ6, H6, S6, q6⟩ := hsp
              exact end_ S6 fun s7 J7 => ⟨_, _, J7, q6⟩
            | cont =>
              obtain ⟨σ6, H6, S6, q6⟩ := hsp
              exact end_ S6 fun s7 J7 => ⟨_, _, J7, q6⟩
            | ret u =>
              obtain ⟨v6, σ6, H6, S6, r6, q6⟩ := hsp
              exact end_ S6 fun s7 J7 => ⟨_, _, _, J7, r6, q6⟩
          | false =>
            show wpAny _ X.A (handleBy (.ref a) X.env hds2) _ _ _
            exact ih w
    exact go hh q
  · cases f with
    | next =>
      obtain ⟨σ', H', J', q⟩ := hsp
      exact wpAny_execs_nil ⟨σ', H', J'.ofTry ok, q⟩
    | brk =>
      obtain ⟨σ', H', J', q⟩ := hsp
      exact ⟨σ', H', J'.ofTry ok, q⟩
    | cont =>
      obtain ⟨σ', H', J', q⟩ := hsp
      exact ⟨σ', H', J'.ofTry ok, q⟩
    | ret u =>
      obtain ⟨v, σ', H', J', r, q⟩ := hsp
      exact ⟨v, σ', H', J'.ofTry ok, r, q⟩
end
end
end MiS

end

section
set_option maxHeartbeats 4000000
namespace MiS
open PySem PySem.Spec L2
open PyProof.Rows hiding St
open PySem.MiX (ExTxt Made)
open Mi (AV HC AH AX Res AS RS)

/-! ### defs -/
/-- a def does what its Mi term does -/
def spM (K : Fg) (cl : String → Value) (m : List AV → Mi.M AV) : Sp := fun vs H Q E => ∃ (c : Cn) (h : AH) (avs : List AV), c.H = H ∧ RepH K c h ∧ RepL K c avs vs ∧ Post K ⟨cl, none⟩ (fun cls d _ H => E cls d H) (RE K) c [] Q (m avs h)
theorem start_rep {K : Fg} {cl : String → Value} {c : Cn} {avs : List AV} {vs : List V} {N : List Str} (r : RepL K c avs vs) : RepS K ⟨cl, none⟩ c (Mi.start N.length avs) (L2.start N vs) := by
  have hl := r.length
  refine ⟨by simp [Mi.start, L2.start, hl], fun i x _ hx => ?_, trivial⟩
  unfold Mi.start at hx
  unfold L2.start
  by_cases hi : i < avs.length
  · rw [List.getElem?_append_left (by simpa using hi), List.getElem?_map] at hx
    cases z : avs[i]? with
    | none => rw [z] at hx; cases hx
    | some y =>
      rw [z] at hx
      cases hx
      obtain ⟨v, h1, h2⟩ := r.get z
      refine ⟨v, ?_, h2⟩
      rw [List.getElem?_append_left (by simp; omega), List.getElem?_map, h1]
      rfl
  · rw [List.getElem?_append_right (by simp; omega), List.getElem?_replicate] at hx
    split at hx <;> cases hx
section
variable {P : Program} {w : World} {K : Fg} {mg : Str → Option Value} {base : Heap} {cl : String → Value}
/-- a def of the text, as it stands behind the top -/
def rf : Value → Addr
  | .ref a => a
  | _ => 0
def DF (K : Fg) (mg : Str → Option Value) (x qual : Str) (st : Stmt) (ps : List Str) : Prop := ∃ f fd, Fun K x qual st f fd ∧ mg x = some (.ref f) ∧ PySem.W.keepIn K (.ref f) = true ∧ Binds K fd ps []
/-- .. that does what m does, k calls deep -/
def FOk (P : Program) (w : World) (K : Fg) (mg : Str → Option Value) (base : Heap) (cl : String → Value) (k : Nat) (x : Str) (m : List AV → Mi.M AV) : Prop := ∃ f fd ps, FnOk P w K mg base (L2.CX P w) k f fd ps (spM K cl m) ∧ mg x = some (.ref f) ∧ PySem.W.keepIn K (.ref f) = true ∧ Binds K fd ps []
theorem FOk.mono {j k : Nat} {x : Str} {m : List AV → Mi.M AV} (h : FOk P w K mg base cl j x m) (hjk : j ≤ k) : FOk P w K mg base cl k x m := by
  obtain ⟨f, fd, ps, h1, h2⟩ := h
  exact ⟨f, fd, ps, h1.mono hjk, h2⟩
/-- what does nothing that is told -/
theorem fok_no {x qual : Str} {st : Stmt} {ps : List Str} {k : Nat} (F : DF K mg x qual st ps) : FOk P w K mg base cl k x (fun _ _ => .no) := by
  obtain ⟨f, fd, F, hm, hk, bi⟩ := F
  refine ⟨f, fd, ps, ⟨fun vs H Q E h => ?_, fun A outer s H args us vs Q E hr e0 hb r h => ?_⟩, hm, hk, bi⟩
  · obtain ⟨c, h, avs, e, rh, r, q⟩ := h
    exact q.elim
  · obtain ⟨c, h, avs, e, rh, r, q⟩ := h
    exact q.elim
theorem okM0 {x qual : Str} {st : Stmt} {N ps : List Str} {k : Nat} {mb : Mi.S} {f : Addr} {fd : FuncData} (F : Fun K x qual st f fd) (S : FnScope N ps (defScope st))
    (hb : ∀ (f : Addr) (cdv : Value) (A : Around) (outer : List Env) (s : Shared) (H : Hp) (E : XK), Room k (A.deeper (envOfC qual (defScope st) s.heap.objs.size f cdv)) →
      QSs ⟨cl, none⟩ (cxOf (L2.CX P w) P w K mg base N qual (defScope st) f cdv A outer s H E) (fun cls d _ H => E cls d H) (defBody st) mb) : FnOk P w K mg base (L2.CX P w) (k + 1) f fd ps (spM K cl (Mi.mDef ps.length N.length mb)) := by
  refine F.okX S (fun vs H Q E h => ?_) (fun cdv A outer s H vs Q E hr hsp => ⟨_, hb f cdv A outer s H E hr, ?_⟩)
  · obtain ⟨c, h, avs, e, rh, r, q⟩ := h
    unfold Mi.mDef at q
    split at q
    · rename_i hl
      rw [← r.length]
      exact hl
    · exact q.elim
  · obtain ⟨c, h, avs, e, rh, r, q⟩ := hsp
    refine ⟨c, h, Mi.start N.length avs, e, rh, start_rep r, ?_⟩
    unfold Mi.mDef at q
    split at q
    · cases z : mb (Mi.start N.length avs) h with
      | nx as h1 =>
        rw [z] at q
        exact fun d σ hx e1 rh1 rs1 => q d .non hx e1 rh1 (rep_non.mpr rfl)
      | rt v h1 => rw [z] at q; exact q
      | bk as h1 => rw [z] at q; exact q.elim
      | ct as h1 => rw [z] at q; exact q.elim
      | ex e as h1 =>
        rw [z] at q
        exact fun d σ cls od hx e1 rh1 rs1 rx => q d cls od hx e1 rh1 rx
      | no => rw [z] at q; exact q.elim
    · exact q.elim
theorem okM {x qual : Str} {st : Stmt} {N ps : List Str} {k : Nat} {mb : Mi.S} (F : DF K mg x qual st ps) (S : FnScope N ps (defScope st))
    (hb : ∀ (f : Addr) (cdv : Value) (A : Around) (outer : List Env) (s : Shared) (H : Hp) (E : XK), Room k (A.deeper (envOfC qual (defScope st) s.heap.objs.size f cdv)) →
      QSs ⟨cl, none⟩ (cxOf (L2.CX P w) P w K mg base N qual (defScope st) f cdv A outer s H E) (fun cls d _ H => E cls d H) (defBody st) mb) : FOk P w K mg base cl (k + 1) x (Mi.mDef ps.length N.length mb) := by
  obtain ⟨f, fd, F, hm, hk, bi⟩ := F
  exact ⟨f, fd, ps, okM0 F S hb, hm, hk, bi⟩
end
section
variable {ct : Ct} {X : Cx} {W : WX} {e : Expr} {es : List Expr} {pos p : Pos} {ma : Mi.A} {m : List AV → Mi.M AV} {k : Nat} {x : Str}
theorem q_call (F : FOk X.prog X.w X.K X.mg X.base ct.cl k x m) (hr : Room k X.A) (tk : Takes X W) (hg : Gl X x) (ha : QA ct X W (e :: es) ma) (hdb : (x == ("__debug__" : Str)) = false := by decide)
    (he : starEach (e :: es) X.env = (false, eval e X.env) :: starEach es X.env := by rfl) (hpl : (backTo pos (starEach es X.env)).any (·.1) = false := by rfl) : QE ct X W (.Call (.Name x p) (e :: es) [] pos) (Mi.eCall m ma) := by
  obtain ⟨f, fd, ps, F, hm, hk, bi⟩ := F
  refine PE.imp (pe_callS F hr hg hm hk bi (fun σ => passAt tk σ) ha hdb he hpl) fun σ H Q ⟨c, h, as, e, rh, rs, q⟩ => ?_
  subst e
  refine tM_bind (P := fun c r => Post X.K ct W (RE X.K) c σ Q r) Post.pk rh rs q fun d h1 a v hx e1 rh1 rs1 r1 q1 => ?_
  refine ⟨d, h1, a, rfl, rh1, r1, ?_⟩
  cases z : m a h1 with
  | ok b h2 => rw [z] at q1; exact q1
  | ex y h2 => rw [z] at q1; exact q1
  | no => rw [z] at q1; exact q1
end
end MiS

end

section
set_option maxHeartbeats 4000000
namespace MiS
open PySem PySem.Spec L2 PySem.W
open PyProof.Rows hiding St
open PySem.MiX (ExTxt Made InitFn)
open PySem.HandSPX (veTail)
open Mi (AV HC AH AX Res AS RS)

/-- an own exception class: its base's chain up -/
structure ClF (K : Fg) (mg : Str → Option Value) (cl : String → Value) (name : String) (C : Addr) (up : List Value) (flds : List Str) : Prop where
  look : ∃ q N bs sn sub ab col dd k0 k1 k2 k3 k5, K.lookup C = some (excClassObj (name : Str) q C N bs up true sn sub ab col dd k0 k1 k2 k3 k5 "ValueError.__new__")
  mg : mg (name : Str) = some (.ref C)
  cl : cl name = .ref C
  ga : findIn K (.ref C) "__getattribute__" = some (some (.builtin "BaseException.__getattribute__"))
  gg : findIn K (.ref C) "__getattr__" = some none
  ha : findIn K (.ref C) "__class__" = some (some (.builtin "object.__class__"))
  no : ∀ f ∈ flds, findIn K (.ref C) f = some none
def subT (l : List String) (c d : String) : Option Bool := if ((c == "DeedError" || l.contains c) && (d == "DeedError" || l.contains d)) = true then some (c == d || d == "DeedError") else none
section
variable {K : Fg} {mg : Str → Option Value} {cl : String → Value} {flds : List Str} {c d : String} {C D E : Addr} {up up2 : List Value}
theorem ClF.cls (h : ClF K mg cl c C up flds) : ∃ cd, clsIn K C = some cd ∧ cd.mro = .ref C :: up ∧ cd.hasDict = true ∧ cd.name = (c : Str) := by
  obtain ⟨q, N, bs, sn, sub, ab, col, dd, k0, k1, k2, k3, k5, e⟩ := h.look
  refine ⟨{ name := c, bases := bs, mro := .ref C :: up, ns := N, qualname := q, hasDict := true, slotNames := sn, subclasses := sub, abstract := ab, collection := col, hasDel := false }, ?_, rfl, rfl, rfl⟩
  unfold clsIn
  rw [e] <;> rfl
theorem ClF.mro (h : ClF K mg cl c C up flds) (b : Value) : mroIn K C b = some ((Value.ref C :: up).contains b) := by
  obtain ⟨cd, h1, h2, _⟩ := h.cls
  unfold mroIn
  rw [h1, Option.bind_some, h2, if_neg (show ¬ (List.isEmpty (Value.ref C :: up) = true) from Bool.false_ne_true)]
theorem ClF.inj (h : ClF K mg cl c C up flds) (g : ClF K mg cl d C up2 flds) : c = d := by
  obtain ⟨cd, h1, _, _, h2⟩ := h.cls
  obtain ⟨ce, g1, _, _, g2⟩ := g.cls
  rw [h1] at g1
  cases g1
  exact str_inj (h2.symm.trans g2)
theorem ClF.typ (h : ClF K mg cl c C up flds) : typeIn K (.ref C) = some (.type "type") := by
  obtain ⟨q, N, bs, sn, sub, ab, col, dd, k0, k1, k2, k3, k5, e⟩ := h.look
  show (K.lookup C).map (·.cls) = _
  rw [e] <;> rfl
theorem ClF.hdct (h : ClF K mg cl c C up flds) : hasDictIn K C = true := by
  obtain ⟨cd, h1, _, h3, _⟩ := h.cls
  unfold hasDictIn
  rw [h1]
  exact h3
/-- the two kinds of chains -/
inductive Up (D : Addr) : String → Addr → List Value → Prop
  | base : Up D "DeedError" D veTail
  | own {c : String} {C : Addr} (h : c ≠ "DeedError") : Up D c C (.ref D :: veTail)
theorem Up.has (u : Up D c C up) {T : String} (h : veTail.contains (.type T) = true) : (Value.ref C :: up).contains (.type T) = true := by
  cases u with
  | base => rw [List.contains_cons, h, Bool.or_true]
  | own _ => rw [List.contains_cons, List.contains_cons, h, Bool.or_true, Bool.or_true]
theorem Up.exc (u : Up D c C up) (h : ClF K mg cl c C up flds) : subIn K (.ref C) (.type "BaseException") = some true := by
  show mroIn K C _ = _
  rw [h.mro, u.has (by decide +kernel)]
theorem one_of (u : Up D c C up) (h : ClF K mg cl c C up flds) : XOne K (cl c) flds C where
  eq := h.cl
  xf := ⟨h.ga, h.gg, u.exc h, h.hdct⟩
  cl := by
    obtain ⟨cd, h1, _⟩ := h.cls
    rw [h1]
    rfl
  ha := h.ha
  hn := by first | rfl | kernel_rfl | decide +kernel
  ht := by first | rfl | kernel_rfl | decide +kernel
  hm := by rw [h.mro, u.has (by decide +kernel)]
  no := h.no
theorem sub_of (hD : ClF K mg cl "DeedError" D veTail flds) (u : Up D c C up) (h : ClF K mg cl c C up flds) (u2 : Up D d E up2) (g : ClF K mg cl d E up2 flds) : subIn K (.ref C) (.ref E) = some (c == d || d == "DeedError") := by
  show mroIn K C _ = _
  rw [h.mro, List.contains_cons]
  have e1 : (Value.ref E == Value.ref C) = (c == d) := by
    rw [Bool.eq_iff_iff, beq_iff_eq, beq_iff_eq]
    refine ⟨fun z => ?_, fun z => ?_⟩
    · cases z
      exact h.inj g
    · subst z
      rw [← h.cl, ← g.cl]
  have e2 : (Value.ref E == Value.ref D) = (d == "DeedError") := by
    rw [Bool.eq_iff_iff, beq_iff_eq, beq_iff_eq]
    refine ⟨fun z => ?_, fun z => ?_⟩
    · cases z
      exact g.inj hD
    · subst z
      rw [← g.cl, ← hD.cl]
  rw [e1]
  cases u with
  | base =>
    have e3 : veTail.contains (Value.ref E) = false := by rfl
    rw [e3]
    cases z : (d == "DeedError") with
    | false => rfl
    | true =>
      have : d = "DeedError" := by simpa using z
      subst this
      rfl
  | own hc =>
    rw [List.contains_cons, e2]
    have e3 : veTail.contains (Value.ref E) = false := by rfl
    rw [e3, Bool.or_false]
theorem xtab_mk {l : List String} (hD : ClF K mg cl "DeedError" D veTail flds) (hl : ∀ c ∈ l, c ≠ "DeedError" ∧ ∃ C, ClF K mg cl c C (.ref D :: veTail) flds) : XTab K ⟨cl, none⟩ (subT l) flds := by
  have look : ∀ c, (c == "DeedError" || l.contains c) = true → ∃ C up, Up D c C up ∧ ClF K mg cl c C up flds := fun c hc => by
    rw [Bool.or_eq_true] at hc
    rcases hc with hc | hc
    · have : c = "DeedError" := by simpa using hc
      subst this
      exact ⟨D, _, .base, hD⟩
    · obtain ⟨h1, C, h2⟩ := hl c (by simpa using hc)
      exact ⟨C, _, .own h1, h2⟩
  have both : ∀ c d b, subT l c d = some b → ∃ C up E up2, Up D c C up ∧ ClF K mg cl c C up flds ∧ Up D d E up2 ∧ ClF K mg cl d E up2 flds ∧ subIn K (.ref C) (.ref E) = some b := fun c d b hb => by
    unfold subT at hb
    split at hb
    · rename_i z
      rw [Bool.and_eq_true] at z
      obtain ⟨C, up, u, h⟩ := look c z.1
      obtain ⟨E, up2, u2, g⟩ := look d z.2
      exact ⟨C, up, E, up2, u, h, u2, g, (sub_of hD u h u2 g).trans hb⟩
    · cases hb
  refine ⟨fun c d b hb => ?_, fun c d b hb => ?_, fun c d b hb => ?_⟩
  · obtain ⟨C, up, E, up2, u, h, u2, g, e⟩ := both c d b hb
    exact ⟨C, one_of u h⟩
  · obtain ⟨C, up, E, up2, u, h, u2, g, e⟩ := both c d b hb
    show exmOne K (cl c) (cl d) = _
    rw [h.cl, g.cl]
    exact exm_ref (u2.exc g) g.hdct g.typ e
  · obtain ⟨C, up, E, up2, u, h, u2, g, e⟩ := both c d b hb
    show kitOne K (cl c) (cl d) = _
    rw [h.cl, g.cl]
    unfold kitOne
    by_cases z : (Value.ref C == Value.ref E) = true
    · rw [if_pos z]
      rw [beq_iff_eq] at z
      cases z
      have ec := h.inj g
      subst ec
      rw [← e]
      show _ = mroIn K C _
      rw [h.mro, List.contains_cons]
      simp
    · rw [if_neg z]
      unfold kitCls
      obtain ⟨cd, h1, _⟩ := g.cls
      have z2 : ((clsIn K E).isSome && typeIn K (.ref E) == some (.type "type")) = true := by rw [h1, g.typ] <;> rfl
      show (if ((clsIn K E).isSome && typeIn K (.ref E) == some (.type "type")) = true then subIn K (.ref C) (.ref E) else none) = some b
      rw [if_pos z2]
      exact e
end
/-- raise of such a class -/
structure XDef (P : Program) (K : Fg) (mg : Str → Option Value) (cl : String → Value) (name : String) (fs : List String) : Prop where
  ex : ∃ C D fI, ExTxt K P mg C D fI (fs.map PySem.Str.ofString) ∧ mg (name : Str) = some (.ref C) ∧ cl name = .ref C ∧ subIn K (.ref C) (.type "BaseException") = some true ∧ typeIn K (.ref C) = some (.type "type")
  db : ∀ y ∈ fs.map PySem.Str.ofString, (y == ("__debug__" : Str)) = false
section
variable {P : Program} {K : Fg} {mg : Str → Option Value} {cl : String → Value} {flds : List Str}
theorem xdef_mk {D C fI cda cc : Addr} {name : String} {fs : List String} {oc ccl cll : Value} {od cdd cld : Option Addr} {qual : Str} {params : Arguments} {txt : Str} {j : Nat} {p0 p1 p2 p3 p4 p5 : Pos} {asg : List Stmt} {scope : Scope} {dV kV doc pm : Value} {an : Option Addr} {ct : Value} {osl ccs csl : Array (Option Value)} {vs : Array Value} {file : Str} {tf : Tok}
    (hD : ClF K mg cl "DeedError" D veTail flds) (h : ClF K mg cl name C (.ref D :: veTail) flds) (sup : mg "super" = none) (opq : nsIn K cStatics "thirdparty.any" = some none) (dI : findIn K (.ref D) "__init__" = some (some (.builtin "ValueError.__init__")))
    (iC : findIn K (.ref C) "__init__" = some (some (.ref fI))) (sa : findIn K (.ref C) "__setattr__" = some (some (.builtin "object.__setattr__"))) (tI : typeIn K (.ref fI) = some (.type "function")) (kC : keepIn K (.ref C) = true)
    (l1 : K.lookup fI = some ⟨oc, od, .func (ksFn "__init__" qual params (.Expr (.Call (.Attribute (.Call (.Name "super" p0) [] [] p1) "__init__" p2) [.Constant (.str txt) j p3] [] p4) p5 :: asg) scope dV kV doc pm an (.ref cda) ct cc), osl⟩)
    (c1 : codeIn K (.ref cda) qual = true) (l2 : K.lookup cda = some ⟨ccl, cdd, .fields vs, ccs⟩) (l3 : K.lookup cc = some ⟨cll, cld, .cell (some (.ref C)), csl⟩)
    (noF : ∀ f ∈ fs.map PySem.Str.ofString, findIn K (.ref C) f = some none)
    (top : (P.main.scope.names.lookup ("super" : Str)).isSome = false) (nd : (("self" : Str) :: fs.map PySem.Str.ofString).Nodup) (few : (fs.map PySem.Str.ofString).length ≤ 100) (ha : PySem.MiX.Asgs asg (fs.map PySem.Str.ofString))
    (k1 : scope.kind = .function) (k2 : scope.isCoroutine = false) (k3 : scope.isGenerator = false) (k4 : scope.names.lookup ("super" : Str) = some .globalImplicit) (k5 : scope.names.lookup ("__class__" : Str) = some .free)
    (k6 : ∀ f ∈ ("self" : Str) :: fs.map PySem.Str.ofString, scope.names.lookup f = some .local) (k7 : ∀ y ∈ scope.names, y.2 ≠ .cell) (k8 : ∃ ar, (params.posonlyargs ++ params.args).head? = some ar ∧ ar.arg = ("self" : Str))
    (k9 : ∀ (s : Shared) (us : List Value), us.length = (("self" : Str) :: fs.map PySem.Str.ofString).length → BindsTo s (ksFn "__init__" qual params (.Expr (.Call (.Attribute (.Call (.Name "super" p0) [] [] p1) "__init__" p2) [.Constant (.str txt) j p3] [] p4) p5 :: asg) scope dV kV doc pm an (.ref cda) ct cc) ⟨us, []⟩ ((("self" : Str) :: fs.map PySem.Str.ofString).zip us))
    (hvs : vs[2]? = some (.str file tf)) (hfile : ((P.main.file : Str) == file) = true)
    (hev : ∀ env : Env, ∃ pl : Sem Bool, eval (.Call (.Attribute (.Call (.Name "super" p0) [] [] p1) "__init__" p2) [.Constant (.str txt) j p3] [] p4) env = (do
      let ov ← attributeBase (.Call (.Name "super" p0) [] [] p1) "__init__" env (eval (.Call (.Name "super" p0) [] [] p1) env)
      standAt p2.atName
      let (f, first) ← holding [ov] (getMethod ov "__init__" pl)
      callWith p4 f first (backTo p4 (starEach [.Constant (.str txt) j p3] env)) []))
    (db : ∀ y ∈ fs.map PySem.Str.ofString, (y == ("__debug__" : Str)) = false) (nD : name ≠ "DeedError") : XDef P K mg cl name fs := by
  refine ⟨⟨C, D, fI, ⟨?_, ?_, opq, sup, top, sa, noF, iC, tI, kC, nd, few, ⟨oc, od, qual, params, txt, j, p0, p1, p2, p3, p4, p5, asg, scope, dV, kV, doc, pm, an, cda, cc, ct, osl, l1, c1, ha, k1, k2, k3, k4, k5, k6, k7, k8, k9, ⟨ccl, cdd, vs, ccs, file, tf, l2, hvs, hfile⟩, ⟨cll, cld, csl, l3⟩, hev⟩⟩, h.mg, h.cl, (Up.own (D := D) nD).exc h, h.typ⟩, db⟩
  · obtain ⟨q, N, bs, sn, sub, ab, col, dd, k0, k1, k2, k3, k5, e⟩ := h.look
    exact ⟨_, q, N, bs, sn, sub, ab, col, dd, k0, k1, k2, k3, k5, e⟩
  · obtain ⟨q, N, bs, sn, sub, ab, col, dd, k0, k1, k2, k3, k5, e⟩ := hD.look
    have e2 : findIn K (.ref D) "__init__" = alongIn K "__init__" (.ref D :: veTail) := by
      unfold findIn
      dsimp only
      rw [e] <;> rfl
    rw [← e2]
    exact dI
end
section
variable {ct : Ct} {X : Cx} {W : WX} {e : Expr} {es : List Expr} {pos p pos2 : Pos} {ma : Mi.A}
theorem qs_raiseX {name f : String} {fs : List String} {k : Nat} (T : XDef X.prog X.K X.mg ct.cl name (f :: fs)) (hc : X.calm = true) (hr : Room k X.A) (tk : Takes X W) (ha : QA ct X W (e :: es) ma) (hg : Gl X (name : Str)) (hdb : ((name : Str) == ("__debug__" : Str)) = false := by decide)
    (he : starEach (e :: es) X.env = (false, eval e X.env) :: starEach es X.env := by rfl) (hpl : (backTo pos (starEach es X.env)).any (·.1) = false := by rfl) :
    QS ct X W (.Raise (some (.Call (.Name (name : Str) p) (e :: es) [] pos)) none pos2) (Mi.sRaise name (f :: fs) ma) := by
  obtain ⟨C, D, fI, T1, hm, hcl, eC, tC⟩ := T.ex
  exact qs_raise hc tk hcl (pmk_x T1 T.db hm eC tC (by have := hr.dp; omega) ha hg hdb he hpl)
end
end MiS

end

section
set_option maxHeartbeats 4000000
namespace MiS
open PySem PySem.Spec L2
open PyProof.Rows hiding St
open Mi (AV HC AH AX Res AS RS)
section
variable {ct : Ct} {X : Cx} {W : WX} {e : Expr} {pos : Pos} {me ma mb : Mi.E}
theorem nx_rev : Nx1 Mi.oRev := by
  intro x h e h' z
  unfold Mi.oRev at z
  split at z <;> cases z
theorem q_rev {k : Nat} {p1 p2 p3 : Pos} (he : QE ct X W e me) : QE ct X W (.Subscript e (.Slice none none (some (.UnaryOp .USub (.Constant (.int 1) k p1) p2)) p3) pos) (Mi.eOp1 Mi.oRev me) :=
  PE.imp (pe_revL he) fun σ H Q ⟨c, h, as, e, rh, rs, q⟩ => by
    subst e
    refine tM_bind (P := fun c r => Post X.K ct W (RE X.K) c σ Q r) Post.pk rh rs q fun d h1 a v hx e1 rh1 rs1 r1 q1 => ?_
    have q1 := q1.pv (nx_rev a h1)
    unfold Mi.oRev at q1
    split at q1
    · rename_i xs hs
      have key : ∃ p vs, v = .ref p ∧ SqL X.K d.H p vs ∧ RepL X.K d xs vs := by
        unfold Mi.oRev.seqL at hs
        split at hs
        · cases hs
          obtain ⟨p, vs, rfl, h2, h3⟩ := rep_scr.mp r1
          exact ⟨p, vs, rfl, h2.sq, h3⟩
        · obtain ⟨p, vs, rfl, h2, h3⟩ := lst_at rh1 r1 hs
          exact ⟨p, vs, rfl, .inl (.inl h2), h3⟩
      obtain ⟨p, vs, rfl, h2, h3⟩ := key
      exact ⟨p, vs, rfl, h2, fun p' hp => PV.lst q1 rh1 h3.reverse hp⟩
    · exact q1.elim
theorem repL_rg {K : Fg} {c : Cn} (a b : Int) : RepL K c (Mi.rgL a b) (rgV a b) := by
  unfold Mi.rgL rgV
  generalize List.range (b - a).toNat = l
  induction l with
  | nil => exact repL_nil.mpr rfl
  | cons x l ih => exact RepL.cons (rep_int.mpr rfl) ih
theorem rg_ok {a b : Int} (h : Mi.rgOk a b = true) : RgOk a b := by
  unfold Mi.rgOk at h
  simp only [Bool.and_eq_true, decide_eq_true_eq] at h
  obtain ⟨⟨g1, g2⟩, h5⟩ := h
  obtain ⟨h1, h2⟩ := big_of g1
  obtain ⟨h3, h4⟩ := big_of g2
  exact ⟨h1, h2, h3, h4, by rw [show (2 : Nat) ^ 24 = Mi.LINE from rfl]; exact h5⟩
theorem use_lrg {cell : Bool} {σ : St} {Q : VK} {d : Cn} {h2 : AH} {i j : Int} (rh : RepH X.K d h2)
    (q : PV X.K d Q (if Mi.rgOk i j = true then (if cell = true then .ok (.cel h2.length) (h2 ++ [.lst (Mi.rgL i j)]) else .ok (.lst (Mi.rgL i j)) h2) else .no)) : RgOk i j ∧ ∀ q, d.H q = none → Q (.ref q) (upd d.H q (.lst (rgV i j))) := by
  split at q
  · rename_i hk
    refine ⟨rg_ok hk, fun p hp => ?_⟩
    split at q
    · exact q.cell rh (repL_rg i j) hp
    · exact q.lst rh (repL_rg i j) hp
  · exact q.elim
theorem nx_lrg {cell : Bool} {i j : Int} {h2 : AH} : ∀ e h', (if Mi.rgOk i j = true then (if cell = true then Res.ok (AV.cel h2.length) (h2 ++ [HC.lst (Mi.rgL i j)]) else .ok (.lst (Mi.rgL i j)) h2) else .no) ≠ .ex e h' := by
  intro e h' z
  repeat (first | split at z | cases z)
theorem q_lrg1 (cell : Bool) {a : Expr} {p pr pos' : Pos} (hc : X.calm = true) (hg : Gl X "list") (hm : X.mg "list" = none) (hgr : Gl X "range") (hmr : X.mg "range" = none) (ha : QE ct X W a ma) (na : starEach [a] X.env = (false, eval a X.env) :: starEach [] X.env := by rfl)
    (nb : starEach [.Call (.Name "range" pr) [a] [] pos'] X.env = (false, eval (.Call (.Name "range" pr) [a] [] pos') X.env) :: starEach [] X.env := by rfl) :
    QE ct X W (.Call (.Name "list" p) [.Call (.Name "range" pr) [a] [] pos'] [] pos) (Mi.eLrg cell (Mi.eC (.int 0)) ma) :=
  PE.imp (pe_listRg hc hg hm (prg_1 hgr hmr ha na) nb) fun σ H Q ⟨c, h, as, e, rh, rs, q⟩ => by
    subst e
    refine tM_bind (P := fun c r => Post X.K ct W (RE X.K) c σ Q r) Post.pk rh rs q fun d h1 a v hx e1 rh1 rs1 r1 q1 => ?_
    cases a with
    | int j =>
      have r1 := rep_int.mp r1
      subst r1
      exact ⟨j, rfl, use_lrg (σ := σ) rh1 (q1.pv nx_lrg)⟩
    | _ => exact q1.elim
theorem q_lrg2 (cell : Bool) {a b : Expr} {p pr pos' : Pos} (hc : X.calm = true) (hg : Gl X "list") (hm : X.mg "list" = none) (hgr : Gl X "range") (hmr : X.mg "range" = none) (ha : QE ct X W a ma) (hb : QE ct X W b mb) (na : starEach [a, b] X.env = (false, eval a X.env) :: starEach [b] X.env := by rfl)
    (nb : starEach [b] X.env = (false, eval b X.env) :: starEach [] X.env := by rfl) (hp : (backTo pos' (starEach [b] X.env)).any (·.1) = false := by rfl)
    (nc : starEach [.Call (.Name "range" pr) [a, b] [] pos'] X.env = (false, eval (.Call (.Name "range" pr) [a, b] [] pos') X.env) :: starEach [] X.env := by rfl) :
    QE ct X W (.Call (.Name "list" p) [.Call (.Name "range" pr) [a, b] [] pos'] [] pos) (Mi.eLrg cell ma mb) :=
  PE.imp (pe_listRg hc hg hm (prg_2 hgr hmr ha hb na nb hp) nc) fun σ H Q ⟨c, h, as, e, rh, rs, q⟩ => by
    subst e
    refine tM_bind (P := fun c r => Post X.K ct W (RE X.K) c σ Q r) Post.pk rh rs q fun d h1 a v hx e1 rh1 rs1 r1 q1 => ?_
    refine tM_bind (P := fun c r => Post X.K ct W (RE X.K) c σ Q r) Post.pk rh1 rs1 q1 fun d2 h2 b w hx2 e2 rh2 rs2 r2 q2 => ?_
    cases a with
    | int i =>
      cases b with
      | int j =>
        have r1 := rep_int.mp r1
        subst r1
        have r2 := rep_int.mp r2
        subst r2
        exact ⟨i, j, rfl, rfl, use_lrg (σ := σ) rh2 (q2.pv nx_lrg)⟩
      | _ => exact q2.elim
    | _ => cases b <;> exact q2.elim
/-! ### {k: v, ..} -/
def RP (K : Fg) : Rl (List (AV × AV)) (List (V × V)) := fun c a b => RepL K c (a.map (·.1)) (b.map (·.1)) ∧ RepL K c (a.map (·.2)) (b.map (·.2))
abbrev QPs (ct : Ct) (X : Cx) (W : WX) (pos : Pos) (keys : List (Option Expr)) (values : List Expr) (es : List (Mi.E × Mi.E)) : Prop := PPs X pos keys values (es.map fun p => (tM X.K ct W (RE X.K) p.1, tM X.K ct W (RE X.K) p.2))
theorem qp_nil : QPs ct X W pos [] [] [] := pps_nil
theorem qp_cons {k v : Expr} {ks : List (Option Expr)} {vs : List Expr} {es : List (Mi.E × Mi.E)} (hk : QE ct X W k ma) (hv : QE ct X W v mb) (hr : QPs ct X W pos ks vs es) : QPs ct X W pos (some k :: ks) (v :: vs) ((ma, mb) :: es) := pps_cons hk hv hr
theorem use_pairs : ∀ (es : List (Mi.E × Mi.E)) {σ : St} {H : Hp} {Q : List (V × V) → Hp → Prop}, tM X.K ct W (RP X.K) (Mi.pairs es) σ H Q → tPairs (es.map fun p => (tM X.K ct W (RE X.K) p.1, tM X.K ct W (RE X.K) p.2)) σ H Q
  | [], σ, H, Q, ⟨c, h, as, e, rh, rs, q⟩ => by
    subst e
    exact q c [] rfl (.refl c) rh ⟨repL_nil.mpr rfl, repL_nil.mpr rfl⟩
  | (k, v) :: r, σ, H, Q, ⟨c, h, as, e, rh, rs, q⟩ => by
    subst e
    have q : Post X.K ct W (RP X.K) c σ Q ((k as h).bind fun x h1 => (v as h1).bind fun y h2 => (Mi.pairs r as h2).bind fun ps h3 => .ok ((x, y) :: ps) h3) := q
    refine tM_bind (P := fun c r => Post X.K ct W (RP X.K) c σ Q r) Post.pk rh rs q fun d h1 a x hx e1 rh1 rs1 r1 q1 => ?_
    refine tM_bind (P := fun c r => Post X.K ct W (RP X.K) c σ Q r) Post.pk rh1 rs1 q1 fun d2 h2 b y hx2 e2 rh2 rs2 r2 q2 => ?_
    refine use_pairs r ⟨d2, h2, as, rfl, rh2, rs2, ?_⟩
    cases z : Mi.pairs r as h2 with
    | ok ps h3 =>
      rw [z] at q2
      exact fun d3 bs hx3 e3 rh3 ⟨r3, r4⟩ => q2 d3 ((x, y) :: bs) hx3 e3 rh3 ⟨RepL.cons ((r1.ext e2).ext e3) r3, RepL.cons (r2.ext e3) r4⟩
    | ex e h3 =>
      rw [z] at q2
      exact q2
    | no =>
      rw [z] at q2
      exact q2.elim
theorem pairs_keys {K : Fg} {c : Cn} : ∀ (ps : List (AV × AV)) (bs : List (V × V)), RP K c ps bs → (ps.all fun p => p.1.key1) = true → ∃ kvs : List (Key × V), bs = kvs.map (fun kv => (kV kv.1, kv.2)) ∧ kvs.length = ps.length ∧
    ∀ (acc : List (AV × AV)) (ks : List (Key × V)), RepKV akey K c acc ks → RepKV akey K c (Mi.putAll acc ps) (mergeK ks kvs)
  | [], bs, ⟨r1, r2⟩, _ => by
    have hl := r1.length
    simp at hl
    have hl := List.length_eq_zero_iff.mp hl.symm
    subst hl
    exact ⟨[], rfl, rfl, fun acc ks h => h⟩
  | (x, y) :: ps, [], ⟨r1, r2⟩, _ => by
    have hl := r1.length
    simp at hl
  | (x, y) :: ps, (u, v) :: bs, ⟨r1, r2⟩, ha => by
    rw [List.all_cons, Bool.and_eq_true] at ha
    obtain ⟨u', l', e1, s1, t1⟩ := repL_cons.mp r1
    obtain ⟨v', l2, e2, s2, t2⟩ := repL_cons.mp r2
    cases e1
    cases e2
    obtain ⟨k, ek⟩ := akey_of (x := x) ha.1
    have hu := akey_v s1 ek
    obtain ⟨kvs, f1, f2, f3⟩ := pairs_keys ps bs ⟨t1, t2⟩ ha.2
    refine ⟨(k, v) :: kvs, by rw [List.map_cons, ← f1, ← hu], by simp [f2], fun acc ks h => ?_⟩
    exact f3 (Mi.put acc x y) (putK ks k v) (h.put akey_eqv ek s2)
theorem q_dsp {keys : List (Option Expr)} {values : List Expr} {es : List (Mi.E × Mi.E)} (h : QPs ct X W pos keys values es) (hall : keys.all (·.isSome) = true := by rfl) (hl : keys.length = values.length := by rfl) (h0 : keys ≠ [] := by simp)
    (h15 : keys.length ≤ 15 := by decide) : QE ct X W (.Dict keys values pos) (Mi.eDsp es) :=
  PE.imp (pe_disp h hall hl h0 h15) fun σ H Q ⟨c, h, as, e, rh, rs, q⟩ => by
    subst e
    intro p hp
    have rh1 : RepH X.K ⟨c.ρ ++ [p], c.X, upd c.H p (.dK [])⟩ (h ++ [.dic false []]) := rh.newcell hp ⟨[], upd_same, rfl⟩
    have ex1 : Ext c ⟨c.ρ ++ [p], c.X, upd c.H p (.dK [])⟩ := ext_cell hp
    have q : Post X.K ct W (RE X.K) c σ Q ((Mi.pairs es as (h ++ [.dic false []])).bind fun ps h1 => match h1[h.length]? with
      | some (.dic false []) => if (ps.all fun p => p.1.key1) = true ∧ ps.length ≤ 15 then .ok (.cel h.length) (h1.set h.length (.dic false (Mi.putAll [] ps))) else .no
      | _ => .no) := q
    refine use_pairs es ⟨⟨c.ρ ++ [p], c.X, upd c.H p (.dK [])⟩, h ++ [.dic false []], as, rfl, rh1, rs.ext ex1, ?_⟩
    cases z : Mi.pairs es as (h ++ [.dic false []]) with
    | ok ps h1 =>
      rw [z] at q
      intro d bs hx e1 rh2 rp
      dsimp only [Res.bind] at q
      split at q
      · rename_i hn
        split at q
        · rename_i hk
          have hρ : d.ρ[h.length]? = some p := by
            obtain ⟨m, em, _⟩ := e1.app
            have em : d.ρ = c.ρ ++ [p] ++ m := em
            rw [em, List.append_assoc, ← rh.len]
            simp
          obtain ⟨ks, k1, k2⟩ := rh2.cell _ _ _ hρ hn
          have k2 : ks = [] := k2
          subst k2
          obtain ⟨kvs, f1, f2, f3⟩ := pairs_keys ps bs rp hk.1
          refine ⟨k1, kvs, f1, by omega, ?_⟩
          have ew := ext_write (o := .dK (mergeK [] kvs)) rh2 (List.mem_of_getElem? hρ)
          exact q (d.at (upd d.H p (.dK (mergeK [] kvs)))) (.ref p) hx ((ex1.trans e1).trans ew) (rh2.write hρ ⟨_, upd_same, RepKV.ext ew (f3 [] [] rfl)⟩) (rep_cel.mpr ⟨p, rfl, hρ⟩)
        · exact q.elim
      · exact q.elim
    | ex e h1 =>
      rw [z] at q
      exact fun d cls od hx e1 rh2 rx => q d cls od hx (ex1.trans e1) rh2 rx
    | no =>
      rw [z] at q
      exact q.elim
end
end MiS

end

section
set_option maxHeartbeats 4000000
namespace MiS
open PySem PySem.Spec L2 PySem.W
open PyProof.Rows hiding St
open PySem.HandSPX (veTail)
open Mi (AV HC AH AX Res AS RS)

/-! ### from the written part -/
def clOf (l : List (String × Addr)) (s : String) : Value := match l.lookup s with
  | some a => .ref a
  | none => .none
abbrev adr {K : Fg} {n : Str} {C : Addr} (_ : nsIn K mainGlobals n = some (some (.ref C))) : Addr := C
theorem at_mk {K : Fg} {h : Heap} {n : Str} {C : Addr} {goal : Prop} (_ : K.In h) (a : nsIn K mainGlobals n = some (some (.ref C))) (k : nsIn K mainGlobals n = some (some (.ref C)) → goal) : goal := k a
section
variable {K : Fg} {mg : Str → Option Value} {h : Heap} {cl : String → Value} {flds : List Str}
theorem nof_nil {C : Addr} : ∀ f ∈ ([] : List Str), findIn K (.ref C) f = some none := fun f hf => by cases hf
theorem nof_cons {C : Addr} {f : Str} {l : List Str} (a : findIn K (.ref C) f = some none) (t : ∀ y ∈ l, findIn K (.ref C) y = some none) : ∀ y ∈ f :: l, findIn K (.ref C) y = some none := fun y hy => by
  rcases List.mem_cons.mp hy with e | e
  · rw [e]; exact a
  · exact t y e
theorem clf_mk {name : String} {C : Addr} {up : List Value} {q : Str} {N : Addr} {bs : List Value} {sn : List Str} {sub : List Value} {ab : Bool} {col : Option Bool} {dd : Option Addr} {k0 k1 k2 k3 k5 : Option Value}
    (X : K.In h) (G : h.Ns mainGlobals mg) (a : nsIn K mainGlobals (name : Str) = some (some (.ref C))) (hc : cl name = .ref C)
    (l : K.lookup C = some (excClassObj (name : Str) q C N bs up true sn sub ab col dd k0 k1 k2 k3 k5 "ValueError.__new__"))
    (ga : findIn K (.ref C) "__getattribute__" = some (some (.builtin "BaseException.__getattribute__"))) (gg : findIn K (.ref C) "__getattr__" = some none) (ha : findIn K (.ref C) "__class__" = some (some (.builtin "object.__class__")))
    (no : ∀ f ∈ flds, findIn K (.ref C) f = some none) : ClF K mg cl name C up flds :=
  ⟨⟨q, N, bs, sn, sub, ab, col, dd, k0, k1, k2, k3, k5, l⟩, mg_of X G a, hc, ga, gg, ha, no⟩
theorem df_mk {x : Str} {st : Stmt} {ps : List Str} {f : Addr} {oc : Value} {od an : Option Addr} {osl : Array (Option Value)} {kV doc pm cdv ct : Value} (X : K.In h) (G : h.Ns mainGlobals mg) (a : nsIn K mainGlobals x = some (some (.ref f)))
    (l : K.lookup f = some ⟨oc, od, .func (fnOf x x (defArgs st) (defBody st) (defScope st) .none kV doc pm an cdv ct), osl⟩) (c : codeIn K cdv x = true) (k : keepIn K (.ref f) = true)
    (b : ∀ (kV doc pm : Value) (an : Option Addr) (cdv ct : Value) (us : List Value), us.length = ps.length → bindArgs (fnOf x x (defArgs st) (defBody st) (defScope st) .none kV doc pm an cdv ct) ⟨us, []⟩ = pure (ps.zip us)) : DF K mg x x st ps := by
  have F := fun_mk (st := st) (x := x) (qual := x) l c k
  exact ⟨f, _, F, mg_of X G a, k, F.binds b⟩
theorem cls_nil {up : List Value} : ∀ c ∈ ([] : List String), c ≠ "DeedError" ∧ ∃ C, ClF K mg cl c C up flds := fun c hc => by cases hc
theorem cls_cons {up : List Value} {c : String} {C : Addr} {l : List String} (hn : c ≠ "DeedError") (hC : ClF K mg cl c C up flds) (t : ∀ c ∈ l, c ≠ "DeedError" ∧ ∃ C, ClF K mg cl c C up flds) : ∀ d ∈ c :: l, d ≠ "DeedError" ∧ ∃ C, ClF K mg cl d C up flds := fun d hd => by
  rcases List.mem_cons.mp hd with e | e
  · rw [e]; exact ⟨hn, C, hC⟩
  · exact t d e
end
/-! ### the end -/
/-- what the law promises of its script -/
def spLaw (n : Nat) (K : Fg) : Sp := fun vs H Q _ => ∃ (a : Addr) (ns : List Int), vs = [.ref a] ∧ ns.length ≤ n ∧ Only H ∧ SqL K H a (ns.map V.int) ∧ ∀ H', Q (.bl true) H'
theorem spLaw_imp {n : Nat} {K : Fg} {cl : String → Value} {m : List AV → Mi.M AV} (hm : ∀ ns : List Int, ns.length ≤ n → ∃ h', m [.scr false (ns.map .int)] [] = .ok (.bl true) h') (vs : List V) (H : Hp) (Q : VK) (E : XK) (h : spLaw n K vs H Q E) : spM K cl m vs H Q E := by
  obtain ⟨a, ns, rfl, hl, hO, hS, q⟩ := h
  have rd : RdF K ⟨[], ⟨[], none⟩, H⟩ a (ns.map V.int) := by
    rcases hS with (hS | hS) | hS
    · rcases hO a with z | ⟨ob, xs, z⟩
      · rw [hS] at z; cases z
      · rw [hS] at z; cases z
    · exact .inl hS
    · exact .inr hS
  refine ⟨⟨[], ⟨[], none⟩, H⟩, [], [.scr false (ns.map .int)], rfl, ⟨rfl, by simp, fun n a o hn => by simp at hn, fun a ha => by cases ha⟩, RepL.one (rep_scr.mpr ⟨a, _, rfl, rd, RepL.ints ns⟩), ?_⟩
  obtain ⟨h', e⟩ := hm ns hl
  rw [e]
  intro d v hx e1 rh r
  rw [RE, rep_bl] at r
  rw [r]
  exact q _
theorem spLaw_here {n : Nat} {K : Fg} (H : Hp) (a : Addr) (ns : List Int) (hl : ns.length ≤ n) (hO : Only H) (hS : SqL K H a (ns.map V.int)) : spLaw n K [.ref a] H (fun v _ => v = .bl true) fun _ _ _ => False := ⟨a, ns, rfl, hl, hO, hS, fun _ => rfl⟩
theorem cx_none {P : Program} {w : World} (H : Hp) (s : Shared) (e : Value) (s' : Shared) (h : L2.CX P w [] H s (fun _ _ _ => False) e s') : False := by
  obtain ⟨_, _, _, _, _, _, _, _, _, _, _, _, z⟩ := h
  exact z
theorem law_fd {P : Program} {w : World} {K : Fg} {mg : Str → Option Value} {cl : String → Value} {k n : Nat} {fa : Addr} {x : Str} {st : Stmt} {m : List AV → Mi.M AV} (hmg : mg "law" = some (.ref fa)) (d : DF K mg "law" "law" st [x])
    (hb : ∀ (kV doc pm : Value) (an : Option Addr) (cdv ct : Value) (s : Shared) (u : Value), BindsTo s (fnOf "law" "law" (defArgs st) (defBody st) (defScope st) .none kV doc pm an cdv ct) ⟨[u], []⟩ [(x, u)])
    (ok : ∀ (base : Heap) (f : Addr) (fd : FuncData), Fun K "law" "law" st f fd → FnOk P w K mg base (L2.CX P w) k f fd [x] (spM K cl m)) (hm : ∀ ns : List Int, ns.length ≤ n → ∃ h', m [.scr false (ns.map .int)] [] = .ok (.bl true) h') :
    ∃ fd : FuncData, (∀ (s : Shared) (u : Value), BindsTo s fd ⟨[u], []⟩ [(x, u)]) ∧ ∀ base : Heap, K.In base → base.Ns mainGlobals mg → FnOk P w K mg base (L2.CX P w) k fa fd [x] (spLaw n K) := by
  obtain ⟨f, fd, F, hf, hk, bi⟩ := d
  cases hmg.symm.trans hf
  refine ⟨fd, ?_, fun base _ _ => (ok base _ fd F).imp (spLaw_imp hm)⟩
  obtain ⟨oc, od, kV, doc, pm, an, cdv, ct, osl, rfl, lk, hcd⟩ := F.ex
  exact fun s u => hb kV doc pm an cdv ct s u
end MiS

end

section
set_option maxHeartbeats 4000000
/-! MiSimp: the combinators by simp. -/
namespace Mi
theorem inBig_iff (j : Int) : inBig j = true ↔ (-4611686018427387904 < j ∧ j < 4611686018427387904) := by
  unfold inBig
  rw [decide_eq_true_iff]
  by_cases h : j = 0
  · subst h
    decide
  · rw [Nat.log2_lt (by omega)]
    rw [show (2 : Nat) ^ 62 = 4611686018427387904 by decide]
    omega
theorem inBig_of {j : Int} (h : -1000000000 ≤ j) (h2 : j ≤ 1000000000) : inBig j = true := by
  rw [inBig_iff]
  omega
section
variable (σ : AS) (h : AH)
@[simp] theorem z_eVar (i : Nat) : eVar i σ h = match σ[i]? with | some (some v) => .ok v h | _ => .no := rfl
@[simp] theorem z_eC (v : AV) : eC v σ h = .ok v h := rfl
@[simp] theorem z_eOp1 (f : AV → M AV) (a : E) : eOp1 f a σ h = (a σ h).bind fun x h1 => f x h1 := rfl
@[simp] theorem z_eOp2 (f : AV → AV → M AV) (a b : E) : eOp2 f a b σ h = (a σ h).bind fun x h1 => (b σ h1).bind fun y h2 => f x y h2 := rfl
@[simp] theorem z_aNil : aNil σ h = .ok [] h := rfl
@[simp] theorem z_aCons (a : E) (r : A) : aCons a r σ h = (a σ h).bind fun x h1 => (r σ h1).bind fun xs h2 => .ok (x :: xs) h2 := rfl
@[simp] theorem z_eCall (f : List AV → M AV) (a : A) : eCall f a σ h = (a σ h).bind fun xs h1 => f xs h1 := rfl
@[simp] theorem z_eM1 (T : String) (f : AV → AV → M AV) (o a : E) : eM1 T f o a σ h = (o σ h).bind fun x h1 => if tyA T h1 x = true then (a σ h1).bind fun y h2 => f x y h2 else .no := rfl
@[simp] theorem z_eTup (a : A) : eTup a σ h = (a σ h).bind fun xs h1 => if xs.length ≤ LINE then .ok (.tup xs) h1 else .no := rfl
@[simp] theorem z_eLst (a : A) : eLst a σ h = (a σ h).bind fun xs h1 => if xs.length ≤ LINE then .ok (.lst xs) h1 else .no := rfl
@[simp] theorem z_eLstC (a : A) : eLstC a σ h = (a σ h).bind fun xs h1 => if xs.length ≤ LINE then .ok (.cel h1.length) (h1 ++ [.lst xs]) else .no := rfl
@[simp] theorem z_eDic0 (t : Bool) : eDic0 t σ h = .ok (.cel h.length) (h ++ [.dic t []]) := rfl
@[simp] theorem z_oNo : oNo σ h = .ok none h := rfl
@[simp] theorem z_oAt (a : E) : oAt a σ h = (a σ h).bind fun x h1 => match x with | .int i => .ok (some i) h1 | _ => .no := rfl
@[simp] theorem z_eSl (a : E) (lo hi : O) : eSl a lo hi σ h = (a σ h).bind fun x h1 => (lo σ h1).bind fun l h2 => (hi σ h2).bind fun u h3 => oSl x l u h3 := rfl
@[simp] theorem z_tB (a : E) : tB a σ h = (a σ h).bind fun x h1 => match x with | .bl b => .ok b h1 | _ => .no := rfl
@[simp] theorem z_tAnd (t u : T) : tAnd t u σ h = (t σ h).bind fun c h1 => if c = true then u σ h1 else .ok false h1 := rfl
@[simp] theorem z_tOr (t u : T) : tOr t u σ h = (t σ h).bind fun c h1 => if c = true then .ok true h1 else u σ h1 := rfl
@[simp] theorem z_tNot (t : T) : tNot t σ h = (t σ h).bind fun c h1 => .ok (!c) h1 := rfl
@[simp] theorem z_tYes : tYes σ h = .ok true h := rfl
@[simp] theorem z_eAnd (a b : E) : eAnd a b σ h = (a σ h).bind fun x h1 => match x with | .bl true => b σ h1 | .bl false => .ok (.bl false) h1 | _ => .no := rfl
@[simp] theorem z_eOr (a b : E) : eOr a b σ h = (a σ h).bind fun x h1 => match x with | .bl true => .ok (.bl true) h1 | .bl false => b σ h1 | _ => .no := rfl
@[simp] theorem z_eNot (a : E) : eNot a σ h = (a σ h).bind fun x h1 => match x with | .bl b => .ok (.bl (!b)) h1 | _ => .no := rfl
@[simp] theorem z_eIf (t : T) (a b : E) : eIf t a b σ h = (t σ h).bind fun c h1 => if c = true then a σ h1 else b σ h1 := rfl
@[simp] theorem z_eChain (f g : AV → AV → M AV) (a b c : E) : eChain f g a b c σ h = (a σ h).bind fun x h1 => (b σ h1).bind fun y h2 => (f x y h2).bind fun z h3 => match z with | .bl true => (c σ h3).bind fun w h4 => g y w h4 | .bl false => .ok (.bl false) h3 | _ => .no := rfl
@[simp] theorem z_iSeq (a : E) : iSeq a σ h = (a σ h).bind fun v h1 => match v with
  | .tup xs => .ok (.seq xs) h1
  | .lst xs => .ok (.seq xs) h1
  | .scr _ xs => .ok (.seq xs) h1
  | .str s => .ok (.seq (s.map fun c => .str [c])) h1
  | .cel n => (match h1[n]? with
    | some (.lst _) => .ok (.live n) h1
    | _ => .no)
  | _ => .no := rfl
@[simp] theorem z_iRng1 (a : E) : iRng1 a σ h = (a σ h).bind fun v h1 => match v with | .int j => if inBig j = true then .ok (.seq (rng 0 j.toNat)) h1 else .no | _ => .no := rfl
@[simp] theorem z_iRng2 (a b : E) : iRng2 a b σ h = (a σ h).bind fun x h1 => (b σ h1).bind fun y h2 => match x, y with
  | .int i, .int j => if inBig i = true then (if inBig j = true then .ok (.seq (rng i (j - i).toNat)) h2 else .no) else .no
  | _, _ => .no := rfl
@[simp] theorem z_gNm (i : Nat) (v : AV) : gNm i v σ h = some (σ.set i (some v), h) := rfl
@[simp] theorem z_gTp (gs : List G) (xs : List AV) : gTp gs (.tup xs) σ h = gAll gs xs σ h := rfl
@[simp] theorem z_gAll0 : gAll [] [] σ h = some (σ, h) := rfl
@[simp] theorem z_gAll1 (g : G) (gs : List G) (v : AV) (vs : List AV) : gAll (g :: gs) (v :: vs) σ h = match g v σ h with | some (σ1, h1) => gAll gs vs σ1 h1 | none => none := rfl
@[simp] theorem z_sNx : sNx σ h = .nx σ h := rfl
@[simp] theorem z_sBk : sBk σ h = .bk σ h := rfl
@[simp] theorem z_sCt : sCt σ h = .ct σ h := rfl
@[simp] theorem z_sSeq (s t : S) : sSeq s t σ h = match s σ h with | .nx σ1 h1 => t σ1 h1 | r => r := rfl
@[simp] theorem z_oNx (p : AS × AH) : oNx (some p) = .nx p.1 p.2 := rfl
@[simp] theorem z_sAsg (e : E) (g : G) : sAsg e g σ h = (e σ h).st σ fun v h1 => oNx (g v σ h1) := rfl
@[simp] theorem z_sPar (i j : Nat) (a b : E) : sPar i j a b σ h = ((a σ h).bind fun v h1 => (b σ h1).bind fun w h2 => .ok (v, w) h2).st σ fun p h2 => .nx ((σ.set i (some p.1)).set j (some p.2)) h2 := rfl
@[simp] theorem z_sAug (i : Nat) (f : AV → AV → M AV) (e : E) : sAug i f e σ h = match σ[i]? with | some (some x) => ((e σ h).bind fun y h1 => f x y h1).st σ fun v h1 => .nx (σ.set i (some v)) h1 | _ => .no := rfl
@[simp] theorem z_oSt (h1 : AH) : oSt σ (some h1) = .nx σ h1 := rfl
@[simp] theorem z_sSet (v o i : E) : sSet v o i σ h = ((v σ h).bind fun x h1 => (o σ h1).bind fun p h2 => (i σ h2).bind fun k h3 => .ok (x, p, k) h3).st σ fun t h1 => oSt σ (sPut t.2.1 t.2.2 t.1 h1) := rfl
@[simp] theorem z_sAugS (f : AV → AV → M AV) (o i e : E) : sAugS f o i e σ h = ((o σ h).bind fun p h1 => (i σ h1).bind fun k h2 => (oIx p k h2).bind fun x h3 => (e σ h3).bind fun y h4 => (f x y h4).bind fun z h5 => .ok (z, p, k) h5).st σ fun t h1 => oSt σ (sPut t.2.1 t.2.2 t.1 h1) := rfl
@[simp] theorem z_sIf (c : T) (s t : S) : sIf c s t σ h = (c σ h).st σ fun b h1 => if b = true then s σ h1 else t σ h1 := rfl
@[simp] theorem z_sRet (e : E) : sRet e σ h = (e σ h).st σ fun v h1 => .rt v h1 := rfl
@[simp] theorem z_sRetN : sRetN σ h = .rt .non h := rfl
@[simp] theorem z_sDrop (e : E) : sDrop e σ h = (e σ h).st σ fun _ h1 => .nx σ h1 := rfl
@[simp] theorem z_sRaise (c : String) (fs : List String) (a : A) : sRaise c fs a σ h = (a σ h).st σ fun vs h1 => if vs.length = fs.length then .ex ⟨c, fs.reverse, vs.reverse⟩ σ h1 else .no := rfl
@[simp] theorem z_sFor (it : I) (g : G) (b : S) : sFor it g b σ h = (it σ h).st σ fun i h1 => match i with
  | .seq xs => forL g b xs σ h1
  | .live n => forC n g b (match h1[n]? with | some (.lst xs) => xs.length | _ => 0) 0 σ h1 := rfl
@[simp] theorem z_sTry (sub : String → String → Option Bool) (b : S) (hs : List Hd) : sTry sub b hs σ h = match b σ h with | .ex e σ1 h1 => handle sub e σ1 h1 hs | r => r := rfl
@[simp] theorem z_eXf (f : String) (i : Nat) : eXf f i σ h = match σ[i]? with | some (some (.xcp _ ns xs)) => (match (ns.zip xs).lookup f with | some v => .ok v h | none => .no) | _ => .no := rfl
@[simp] theorem z_eXis (sub : String → String → Option Bool) (cs : List String) (i : Nat) : eXis sub cs i σ h = match σ[i]? with | some (some (.xcp c _ _)) => (match orAll (cs.map (sub c)) with | some b => .ok (.bl b) h | none => .no) | _ => .no := rfl
@[simp] theorem z_eLc (it : I) (g : G) (t : T) (e : E) (vs : List Nat) : eLc it g t e vs σ h = (lcOf it g t e vs σ h).bind fun xs h1 => .ok (.lst xs) h1 := rfl
@[simp] theorem z_eLcC (it : I) (g : G) (t : T) (e : E) (vs : List Nat) : eLcC it g t e vs σ h = (lcOf it g t e vs σ h).bind fun xs h1 => .ok (.cel h1.length) (h1 ++ [.lst xs]) := rfl
@[simp] theorem z_lcOf (it : I) (g : G) (t : T) (e : E) (vs : List Nat) : lcOf it g t e vs σ h = (it σ h).bind fun i h1 => match i with
  | .seq xs => noEx (lcL g t e (wipe σ vs) xs [] h1)
  | .live n => noEx (lcC n g t e (wipe σ vs) (match h1[n]? with | some (.lst xs) => xs.length | _ => 0) 0 [] h1) := rfl
@[simp] theorem z_noEx {α : Type} (a : α) : noEx (.ok a h) = .ok a h := rfl
/-! operations -/
@[simp] theorem z_addI (i j : Int) : oAdd (.int i) (.int j) h = .ok (.int (i + j)) h := rfl
@[simp] theorem z_addS (s t : List Nat) : oAdd (.str s) (.str t) h = if s.length + t.length ≤ LINE then .ok (.str (s ++ t)) h else .no := rfl
@[simp] theorem z_addT (s t : List AV) : oAdd (.tup s) (.tup t) h = if s.length + t.length ≤ LINE then .ok (.tup (s ++ t)) h else .no := rfl
@[simp] theorem z_addL (s t : List AV) : oAdd (.lst s) (.lst t) h = if s.length + t.length ≤ LINE then .ok (.lst (s ++ t)) h else .no := rfl
@[simp] theorem z_iaddI (i j : Int) : oIadd (.int i) (.int j) h = .ok (.int (i + j)) h := rfl
@[simp] theorem z_iaddS (s t : List Nat) : oIadd (.str s) (.str t) h = if s.length + t.length ≤ LINE then .ok (.str (s ++ t)) h else .no := rfl
@[simp] theorem z_subI (i j : Int) : oSub (.int i) (.int j) h = .ok (.int (i - j)) h := rfl
@[simp] theorem z_mulI (i j : Int) : oMul (.int i) (.int j) h = if (-18446744073709551616 < i ∧ i < 18446744073709551616) ∨ (-18446744073709551616 < j ∧ j < 18446744073709551616) then .ok (.int (i * j)) h else .no := rfl
@[simp] theorem z_fdivI (i j : Int) : oFdiv (.int i) (.int j) h = if 0 < j ∧ j < 1073741824 then .ok (.int (i / j)) h else .no := rfl
@[simp] theorem z_modI (i j : Int) : oMod (.int i) (.int j) h = if 0 < j then .ok (.int (i % j)) h else .no := rfl
@[simp] theorem z_powI (i j : Int) : oPow (.int i) (.int j) h = if 0 ≤ j ∧ j ≤ 1000000 ∧ i.natAbs < 18446744073709551616 then .ok (.int (i ^ j.toNat)) h else .no := rfl
@[simp] theorem z_shlI (i j : Int) : oShl (.int i) (.int j) h = if 0 ≤ j ∧ j ≤ 1000000 ∧ i.natAbs < 18446744073709551616 then .ok (.int (i * 2 ^ j.toNat)) h else .no := rfl
@[simp] theorem z_negI (i : Int) : oNeg (.int i) h = .ok (.int (-i)) h := rfl
@[simp] theorem z_ltI (i j : Int) : oLt (.int i) (.int j) h = .ok (.bl (decide (i < j))) h := rfl
@[simp] theorem z_leI (i j : Int) : oLe (.int i) (.int j) h = .ok (.bl (decide (i ≤ j))) h := rfl
@[simp] theorem z_gtI (i j : Int) : oGt (.int i) (.int j) h = .ok (.bl (decide (j < i))) h := rfl
@[simp] theorem z_geI (i j : Int) : oGe (.int i) (.int j) h = .ok (.bl (decide (j ≤ i))) h := rfl
@[simp] theorem z_eqI (i j : Int) : oEq (.int i) (.int j) h = .ok (.bl (i == j)) h := by simp [oEq, flatten, AV.fits, AV.eqv]
@[simp] theorem z_eqS (s t : List Nat) : oEq (.str s) (.str t) h = .ok (.bl (s == t)) h := rfl
@[simp] theorem z_eqB (a b : Bool) : oEq (.bl a) (.bl b) h = .ok (.bl (a == b)) h := by simp [oEq, flatten, AV.fits, AV.eqv]
@[simp] theorem z_neI (i j : Int) : oNe (.int i) (.int j) h = .ok (.bl (!(i == j))) h := by simp [oNe, flatten, AV.fits, AV.eqv]
@[simp] theorem z_neS (s t : List Nat) : oNe (.str s) (.str t) h = .ok (.bl (!(s == t))) h := rfl
@[simp] theorem z_isN (x : AV) : oIsN x h = .ok (.bl x.isN) h := rfl
@[simp] theorem z_notN (x : AV) : oNotN x h = .ok (.bl (!x.isN)) h := rfl
@[simp] theorem z_inS (c : Nat) (t : List Nat) : oIn (.str [c]) (.str t) h = .ok (.bl (decide (c ∈ t))) h := rfl
@[simp] theorem z_notIn (x y : AV) : oNotIn x y h = (oIn x y h).bind fun v h1 => match v with | .bl b => .ok (.bl (!b)) h1 | _ => .no := rfl
@[simp] theorem z_ixS (s : List Nat) (i : Int) : oIx (.str s) (.int i) h = if s.length ≤ LINE then (match atI s i with | some c => .ok (.str [c]) h | none => .no) else .no := rfl
@[simp] theorem z_ixT (xs : List AV) (i : Int) : oIx (.tup xs) (.int i) h = match atI xs i with | some v => .ok v h | none => .no := rfl
@[simp] theorem z_ixL (xs : List AV) (i : Int) : oIx (.lst xs) (.int i) h = match atI xs i with | some v => .ok v h | none => .no := rfl
@[simp] theorem z_ixR (t : Bool) (xs : List AV) (i : Int) : oIx (.scr t xs) (.int i) h = match atI xs i with | some v => .ok v h | none => .no := rfl
@[simp] theorem z_ixC (n : Nat) (y : AV) : oIx (.cel n) y h = match h[n]? with
    | some (.lst xs) => (match y with | .int i => (match atI xs i with | some v => .ok v h | none => .no) | _ => .no)
    | some (.dic t kvs) => if keyFor t y then (match look kvs y with | some v => .ok v h | none => .no) else .no
    | none => .no := by cases y <;> rfl
@[simp] theorem z_slS (s : List Nat) (lo hi : Option Int) : oSl (.str s) lo hi h = if s.length ≤ LINE then .ok (.str (cut s lo hi)) h else .no := rfl
@[simp] theorem z_slT (xs : List AV) (lo hi : Option Int) : oSl (.tup xs) lo hi h = .ok (.tup (cut xs lo hi)) h := rfl
@[simp] theorem z_slL (xs : List AV) (lo hi : Option Int) : oSl (.lst xs) lo hi h = .ok (.lst (cut xs lo hi)) h := rfl
@[simp] theorem z_slR (xs : List AV) (lo hi : Option Int) : oSl (.scr false xs) lo hi h = .ok (.lst (cut xs lo hi)) h := rfl
@[simp] theorem z_lenS (s : List Nat) : cLen [.str s] h = if s.length ≤ LINE then .ok (.int s.length) h else .no := rfl
@[simp] theorem z_lenT (s : List AV) : cLen [.tup s] h = .ok (.int s.length) h := rfl
@[simp] theorem z_lenL (s : List AV) : cLen [.lst s] h = .ok (.int s.length) h := rfl
@[simp] theorem z_lenR (t : Bool) (s : List AV) : cLen [.scr t s] h = .ok (.int s.length) h := rfl
@[simp] theorem z_lenC (n : Nat) : cLen [.cel n] h = match h[n]? with
      | some (.lst xs) => .ok (.int xs.length) h
      | some (.dic false kvs) => .ok (.int kvs.length) h
      | _ => .no := rfl
@[simp] theorem z_abs (i : Int) : cAbs [.int i] h = .ok (.int (if i < 0 then -i else i)) h := rfl
@[simp] theorem z_max2 (i j : Int) : cMax2 [.int i, .int j] h = .ok (.int (if j > i then j else i)) h := rfl
@[simp] theorem z_min2 (i j : Int) : cMin2 [.int i, .int j] h = .ok (.int (if j < i then j else i)) h := rfl
@[simp] theorem z_intI (i : Int) : cInt [.int i] h = .ok (.int i) h := rfl
@[simp] theorem z_intB (b : Bool) : cInt [.bl b] h = .ok (.int (b2i b)) h := rfl
@[simp] theorem z_str (i : Int) : cStr [.int i] h = if i.natAbs.log2 < 1920 then .ok (.str (intL i)) h else .no := rfl
@[simp] theorem z_list (x : AV) : cList [x] h = match seqOf h x with | some xs => .ok (.lst xs) h | none => .no := rfl
@[simp] theorem z_listC (x : AV) : cListC [x] h = match seqOf h x with | some xs => .ok (.cel h.length) (h ++ [.lst xs]) | none => .no := rfl
@[simp] theorem z_isTy (t : String) (x : AV) : oIsTy t x h = match isTy t x h with | some b => .ok (.bl b) h | none => .no := rfl
@[simp] theorem z_sPutC (n : Nat) (i v : AV) : sPut (.cel n) i v h = match h[n]? with
    | some (.lst xs) => (match i with
      | .int k => (match atN xs.length k with
        | some j => some (h.set n (.lst (xs.set j v)))
        | none => none)
      | _ => none)
    | some (.dic t kvs) => if keyFor t i = true ∧ kvs.length < LINE then some (h.set n (.dic t (put kvs i v))) else none
    | none => none := rfl
@[simp] theorem z_app (n : Nat) (y : AV) : mAppend (.cel n) y h = match h[n]? with
    | some (.lst xs) => if xs.length < LINE then .ok .non (h.set n (.lst (xs ++ [y]))) else .no
    | _ => .no := rfl
@[simp] theorem z_mDef (p n : Nat) (b : S) (vs : List AV) : mDef p n b vs h = if vs.length = p then (match b (start n vs) h with
  | .nx _ h1 => .ok .non h1
  | .rt v h1 => .ok v h1
  | .ex e _ h1 => .ex e h1
  | _ => .no) else .no := rfl
end
/-! ### loops -/
@[simp] theorem z_forL0 (g : G) (b : S) (σ : AS) (h : AH) : forL g b [] σ h = .nx σ h := rfl
theorem forL_inv {g : G} {b : S} (I : Nat → AS → AH → Prop) : ∀ (xs : List AV) (k : Nat) (σ : AS) (h : AH), I k σ h →
    (∀ (i : Nat) (x : AV) (σ : AS) (h : AH), xs[i]? = some x → I (k + i) σ h → ∃ σ1 h1 σ2 h2, g x σ h = some (σ1, h1) ∧ (b σ1 h1 = .nx σ2 h2 ∨ b σ1 h1 = .ct σ2 h2) ∧ I (k + i + 1) σ2 h2) →
    ∃ σ' h', forL g b xs σ h = .nx σ' h' ∧ I (k + xs.length) σ' h'
  | [], k, σ, h, h0, _ => ⟨σ, h, rfl, by simpa using h0⟩
  | x :: xs, k, σ, h, h0, st => by
    obtain ⟨σ1, h1, σ2, h2, e1, e2, i2⟩ := st 0 x σ h rfl (by simpa using h0)
    obtain ⟨σ', h', e3, i3⟩ := forL_inv I xs (k + 1) σ2 h2 (by simpa using i2) fun i y σ h hi hI => by
      obtain ⟨a, b', c, d, q1, q2, q3⟩ := st (i + 1) y σ h (by simpa using hi) (by rw [show k + (i + 1) = k + 1 + i by omega]; exact hI)
      exact ⟨a, b', c, d, q1, q2, by rw [show k + 1 + i + 1 = k + (i + 1) + 1 by omega]; exact q3⟩
    refine ⟨σ', h', ?_, by simpa [Nat.add_assoc, Nat.add_comm 1] using i3⟩
    unfold forL
    rw [e1]
    dsimp only
    rcases e2 with e2 | e2 <;> rw [e2] <;> exact e3
@[simp] theorem z_lcL0 (g : G) (t : T) (e : E) (σ : AS) (acc : List AV) (h : AH) : lcL g t e σ [] acc h = .ok acc h := rfl
/-- a comprehension without a test, by an invariant on the heap -/
theorem lcL_inv {g : G} {t : T} {e : E} {σ : AS} (I : Nat → List AV → AH → Prop) : ∀ (xs : List AV) (k : Nat) (acc : List AV) (h : AH), I k acc h → acc.length + xs.length ≤ LINE →
    (∀ (i : Nat) (x : AV) (acc : List AV) (h : AH), xs[i]? = some x → I (k + i) acc h → ∃ σ1 h1 b h2, g x σ h = some (σ1, h1) ∧ t σ1 h1 = .ok b h2 ∧ (b = false → I (k + i + 1) acc h2) ∧ (b = true → ∃ y h3, e σ1 h2 = .ok y h3 ∧ I (k + i + 1) (acc ++ [y]) h3)) →
    ∃ ys h', lcL g t e σ xs acc h = .ok ys h' ∧ I (k + xs.length) ys h'
  | [], k, acc, h, h0, _, _ => ⟨acc, h, rfl, by simpa using h0⟩
  | x :: xs, k, acc, h, h0, hl, st => by
    obtain ⟨σ1, h1, b, h2, e1, e2, i2, i3⟩ := st 0 x acc h rfl (by simpa using h0)
    have nxt : ∀ acc' h', acc'.length ≤ acc.length + 1 → I (k + 1) acc' h' → ∃ ys h'', lcL g t e σ xs acc' h' = .ok ys h'' ∧ I (k + (x :: xs).length) ys h'' := fun acc' h' hl' hI => by
      obtain ⟨ys, h'', q1, q2⟩ := lcL_inv I xs (k + 1) acc' h' hI (by simp at hl; omega) fun i y acc h hi hI => by
        obtain ⟨a, b', c, d, z1, z2, z3, z4⟩ := st (i + 1) y acc h (by simpa using hi) (by rw [show k + (i + 1) = k + 1 + i by omega]; exact hI)
        have e : k + (i + 1) + 1 = k + 1 + i + 1 := by omega
        rw [e] at z3 z4
        exact ⟨a, b', c, d, z1, z2, z3, z4⟩
      exact ⟨ys, h'', q1, by simpa [Nat.add_assoc, Nat.add_comm 1] using q2⟩
    cases b with
    | false =>
      obtain ⟨ys, h', q1, q2⟩ := nxt acc h2 (by omega) (i2 rfl)
      exact ⟨ys, h', by unfold lcL; rw [e1]; dsimp only; rw [e2]; simpa using q1, q2⟩
    | true =>
      obtain ⟨y, h3, e3, i4⟩ := i3 rfl
      obtain ⟨ys, h', q1, q2⟩ := nxt (acc ++ [y]) h3 (by simp) i4
      refine ⟨ys, h', ?_, q2⟩
      unfold lcL
      rw [e1]
      dsimp only
      rw [e2]
      simp only [Res.bind_ok, if_true]
      rw [if_pos (by simp at hl; omega), e3]
      exact q1
theorem rng_get {lo : Int} {n i : Nat} {x : AV} (h : (rng lo n)[i]? = some x) : i < n ∧ x = .int (lo + i) := by
  unfold rng at h
  rw [List.getElem?_map] at h
  by_cases hi : i < n
  · rw [List.getElem?_range hi] at h
    cases h
    exact ⟨hi, rfl⟩
  · rw [List.getElem?_eq_none (by simpa using hi)] at h
    cases h
@[simp] theorem rng_len {lo : Int} {n : Nat} : (rng lo n).length = n := by simp [rng]
/-! ### places -/
theorem atI_nat {α : Type} {xs : List α} {i : Nat} : atI xs (i : Int) = xs[i]? := by
  unfold atI atN
  rw [if_pos (by omega)]
  by_cases h : i < xs.length
  · rw [if_pos (by omega)]
    simp
  · rw [if_neg (by omega)]
    simp at h
    simp [h]
theorem atI_of {α : Type} {xs : List α} {i : Int} (h : 0 ≤ i) : atI xs i = xs[i.toNat]? := by
  obtain ⟨n, rfl⟩ := Int.eq_ofNat_of_zero_le h
  rw [atI_nat]
  rfl
@[simp] theorem atI_0 {α : Type} {x : α} {xs : List α} : atI (x :: xs) 0 = some x := by rw [show (0 : Int) = ((0 : Nat) : Int) from rfl, atI_nat]; rfl
@[simp] theorem atI_1 {α : Type} {x y : α} {xs : List α} : atI (x :: y :: xs) 1 = some y := by rw [show (1 : Int) = ((1 : Nat) : Int) from rfl, atI_nat]; rfl
@[simp] theorem atI_2 {α : Type} {x y z : α} {xs : List α} : atI (x :: y :: z :: xs) 2 = some z := by rw [show (2 : Int) = ((2 : Nat) : Int) from rfl, atI_nat]; rfl
@[simp] theorem atI_3 {α : Type} {x y z w : α} {xs : List α} : atI (x :: y :: z :: w :: xs) 3 = some w := by rw [show (3 : Int) = ((3 : Nat) : Int) from rfl, atI_nat]; rfl
@[simp] theorem line_is : LINE = 16777216 := rfl
theorem cut_to {α : Type} {xs : List α} {n : Int} (h : 0 ≤ n) : cut xs none (some n) = xs.take n.toNat := by
  unfold cut sIx
  simp only [if_neg (Int.not_lt.mpr h), List.drop_zero, Nat.sub_zero]
  by_cases hl : n.toNat ≤ xs.length
  · rw [Nat.min_eq_left hl]
  · rw [Nat.min_eq_right (by omega), List.take_of_length_le (Nat.le_refl _), List.take_of_length_le (by omega)]
theorem cut_from {α : Type} {xs : List α} {n : Int} (h : 0 ≤ n) : cut xs (some n) none = xs.drop n.toNat := by
  unfold cut sIx
  simp only [if_neg (Int.not_lt.mpr h)]
  by_cases hl : n.toNat ≤ xs.length
  · rw [Nat.min_eq_left hl, List.take_of_length_le (by simp)]
  · rw [Nat.min_eq_right (by omega), List.drop_of_length_le (Nat.le_refl _), List.drop_of_length_le (by omega)]
    simp
/-! ### step by step -/
theorem seq_nx {s t : S} {σ σ1 : AS} {h h1 : AH} (e : s σ h = .nx σ1 h1) : sSeq s t σ h = t σ1 h1 := by
  show (match s σ h with | .nx σ1 h1 => t σ1 h1 | r => r) = _
  rw [e]
theorem seq_rt {s t : S} {σ : AS} {h h1 : AH} {v : AV} (e : s σ h = .rt v h1) : sSeq s t σ h = .rt v h1 := by
  show (match s σ h with | .nx σ1 h1 => t σ1 h1 | r => r) = _
  rw [e]
theorem def_rt {p n : Nat} {b : S} {vs : List AV} {h h1 : AH} {v : AV} (hl : vs.length = p) (e : b (start n vs) h = .rt v h1) : mDef p n b vs h = .ok v h1 := by
  rw [z_mDef, if_pos hl, e]
theorem for_seq {it : I} {g : G} {b : S} {σ : AS} {h h1 : AH} {xs : List AV} {r : RS} (e : it σ h = .ok (.seq xs) h1) (f : forL g b xs σ h1 = r) : sFor it g b σ h = r := by
  rw [z_sFor, e]
  exact f
end Mi

end

section
set_option maxHeartbeats 4000000
/-! MiLaw: the words that every law uses: the draws from the script, sameness. -/
namespace MiL
open Mi
/-! ### the terms (printed by gen.py) -/
def m__law_begin : List AV → M AV := mDef 1 2 (sRet (eLstC (aCons (eLc (iSeq (eSl (eVar 0) oNo (oAt (eC (.int 63))))) (gNm 1) (tYes) (eCall cInt (aCons (eVar 1) (aNil))) [1]) (aCons (eC (.int 0)) (aCons (eC (.int 0)) (aCons (eC (.int 7)) (aNil)))))))
def m__law_draw : List AV → M AV := mDef 2 5 (sSeq (sIf (tB (eOp2 oGt (eOp2 oIx (eVar 0) (eC (.int 2))) (eC (.int 0)))) (sSeq (sAsg (eOp2 oIx (eVar 0) (eC (.int 2))) (gNm 3)) (sSeq (sSet (eOp2 oFdiv (eVar 3) (eVar 1)) (eVar 0) (eC (.int 2))) (sRet (eOp2 oMod (eCall cInt (aCons (eVar 3) (aNil))) (eVar 1))))) (sNx)) (sSeq (sAsg (eC (.int 0)) (gNm 2)) (sSeq (sIf (tB (eOp2 oLt (eOp2 oIx (eVar 0) (eC (.int 1))) (eCall cLen (aCons (eOp2 oIx (eVar 0) (eC (.int 0))) (aNil))))) (sSeq (sAsg (eOp2 oIx (eOp2 oIx (eVar 0) (eC (.int 0))) (eOp2 oIx (eVar 0) (eC (.int 1)))) (gNm 4)) (sAsg (eOp2 oAdd (eOp2 oMul (eC (.int 2)) (eCall cAbs (aCons (eVar 4) (aNil)))) (eCall cInt (aCons (eOp2 oLt (eVar 4) (eC (.int 0))) (aNil)))) (gNm 2))) (sNx)) (sSeq (sAugS oIadd (eVar 0) (eC (.int 1)) (eC (.int 1))) (sSeq (sIf (tB (eOp2 oGe (eVar 2) (eOp2 oMul (eC (.int 2)) (eOp2 oPow (eC (.int 10)) (eC (.int 18)))))) (sSeq (sAsg (eOp2 oMod (eCall cInt (aCons (eOp2 oFdiv (eVar 2) (eC (.int 2))) (aNil))) (eOp2 oShl (eC (.int 1)) (eC (.int 6000)))) (gNm 3)) (sSeq (sSet (eOp2 oFdiv (eVar 3) (eVar 1)) (eVar 0) (eC (.int 2))) (sRet (eOp2 oMod (eCall cInt (aCons (eVar 3) (aNil))) (eVar 1))))) (sNx)) (sSeq (sSet (eOp2 oMod (eCall cInt (aCons (eOp2 oAdd (eOp2 oAdd (eOp2 oAdd (eOp2 oMul (eOp2 oIx (eVar 0) (eC (.int 3))) (eC (.int 48271))) (eOp2 oMul (eOp2 oMod (eCall cInt (aCons (eVar 2) (aNil))) (eC (.int 2147483629))) (eC (.int 16807)))) (eOp2 oMul (eOp2 oIx (eVar 0) (eC (.int 1))) (eC (.int 69621)))) (eC (.int 11))) (aNil))) (eC (.int 2147483647))) (eVar 0) (eC (.int 3))) (sRet (eOp2 oMod (eCall cInt (aCons (eOp2 oFdiv (eOp2 oIx (eVar 0) (eC (.int 3))) (eC (.int 16))) (aNil))) (eVar 1)))))))))
def m__law_pick : List AV → M AV := mDef 2 2 (sRet (eOp2 oIx (eVar 1) (eCall m__law_draw (aCons (eVar 0) (aCons (eCall cLen (aCons (eVar 1) (aNil))) (aNil))))))
def m__law_is_int : List AV → M AV := mDef 1 1 (sRet (eAnd (eOp1 (oIsTy "int") (eVar 0)) (eNot (eOp1 (oIsTy "bool") (eVar 0)))))
def b__law_same (mk : List AV → M AV) : List AV → M AV := mDef 2 3 (sSeq (sIf (tB (eOp1 (oIsTy "tuple") (eVar 0))) (sSeq (sIf (tOr (tNot (tB (eOp1 (oIsTy "tuple") (eVar 1)))) (tB (eOp2 oNe (eCall cLen (aCons (eVar 0) (aNil))) (eCall cLen (aCons (eVar 1) (aNil)))))) (sRet (eC (.bl false))) (sNx)) (sRet (eOp2 oEq (eCall cLen (aCons (eLc (iRng1 (eCall cLen (aCons (eVar 0) (aNil)))) (gNm 2) (tNot (tB (eCall mk (aCons (eOp2 oIx (eVar 0) (eVar 2)) (aCons (eOp2 oIx (eVar 1) (eVar 2)) (aNil)))))) (eVar 2) [2]) (aNil))) (eC (.int 0))))) (sNx)) (sSeq (sIf (tOr (tB (eOp1 (oIsTy "bool") (eVar 0))) (tOr (tB (eOp1 oIsN (eVar 0))) (tB (eOp1 (oIsTy "str") (eVar 0))))) (sRet (eAnd (eOp2 oEq (eOp1 (oIsTy "bool") (eVar 0)) (eOp1 (oIsTy "bool") (eVar 1))) (eOp2 oEq (eVar 0) (eVar 1)))) (sNx)) (sRet (eAnd (eCall m__law_is_int (aCons (eVar 0) (aNil))) (eAnd (eCall m__law_is_int (aCons (eVar 1) (aNil))) (eOp2 oEq (eVar 0) (eVar 1)))))))
def m__law_same : Nat → List AV → M AV
  | 0 => fun _ _ => .no
  | k + 1 => b__law_same (m__law_same k)
theorem same_succ (k : Nat) : m__law_same (k + 1) = b__law_same (m__law_same k) := rfl
/-! ### the draws -/
/-- the draws' cell -/
def Dr (c : HC) : Prop := ∃ (xs : List Int) (p f s : Int), c = .lst [.lst (xs.map AV.int), .int p, .int f, .int s] ∧ 0 ≤ p ∧ 0 ≤ f
theorem draw_ok {c : HC} {t : AH} {many : Int} (hd : Dr c) (h0 : 0 < many) (h1 : many < 1073741824) :
    ∃ r c', 0 ≤ r ∧ r < many ∧ Dr c' ∧ m__law_draw [.cel 0, .int many] (c :: t) = .ok (.int r) (c' :: t) := by
  obtain ⟨xs, p, f, s, rfl, hp, hf⟩ := hd
  by_cases hf0 : 0 < f
  · refine ⟨f % many, .lst [.lst (xs.map AV.int), .int p, .int (f / many), .int s], Int.emod_nonneg _ (by omega), Int.emod_lt_of_pos _ h0, ⟨xs, p, f / many, s, rfl, hp, Int.ediv_nonneg hf (by omega)⟩, ?_⟩
    simp [m__law_draw, start, hf0, h0, h1, atN]
  · have fin : ∀ (sz : Int), 0 ≤ sz → ∃ r c', 0 ≤ r ∧ r < many ∧ Dr c' ∧
        (if 2000000000000000000 ≤ sz then (r = sz / 2 % 2 ^ 6000 % many ∧ c' = HC.lst [.lst (xs.map AV.int), .int (p + 1), .int (sz / 2 % 2 ^ 6000 / many), .int s])
          else (r = (s * 48271 + sz % 2147483629 * 16807 + (p + 1) * 69621 + 11) % 2147483647 / 16 % many ∧ c' = HC.lst [.lst (xs.map AV.int), .int (p + 1), .int f, .int ((s * 48271 + sz % 2147483629 * 16807 + (p + 1) * 69621 + 11) % 2147483647)])) := by
      intro sz hz
      by_cases hb : 2000000000000000000 ≤ sz
      · refine ⟨_, _, ?_, ?_, ?_, by rw [if_pos hb]; exact ⟨rfl, rfl⟩⟩
        · exact Int.emod_nonneg _ (by omega)
        · exact Int.emod_lt_of_pos _ h0
        · exact ⟨xs, p + 1, _, s, rfl, by omega, Int.ediv_nonneg (Int.emod_nonneg _ (Int.ne_of_gt (Int.pow_pos (by decide)))) (by omega)⟩
      · refine ⟨_, _, ?_, ?_, ?_, by rw [if_neg hb]; exact ⟨rfl, rfl⟩⟩
        · exact Int.emod_nonneg _ (by omega)
        · exact Int.emod_lt_of_pos _ h0
        · exact ⟨xs, p + 1, f, _, rfl, by omega, hf⟩
    by_cases hl : p < xs.length
    · obtain ⟨x, hx⟩ : ∃ x, xs[p.toNat]? = some x := ⟨_, List.getElem?_eq_getElem (by omega)⟩
      obtain ⟨r, c', k1, k2, k3, k4⟩ := fin (2 * (if x < 0 then -x else x) + b2i (decide (x < 0))) (by unfold b2i; split <;> split <;> omega)
      refine ⟨r, c', k1, k2, k3, ?_⟩
      by_cases hb : 2000000000000000000 ≤ 2 * (if x < 0 then -x else x) + b2i (decide (x < 0))
      · rw [if_pos hb] at k4
        obtain ⟨rfl, rfl⟩ := k4
        have big : (0 : Int) < 2 ^ 6000 := Int.pow_pos (by decide)
        simp [m__law_draw, start, hf0, h0, h1, atN, hl, atI_of hp, hx, hb, big]
      · rw [if_neg hb] at k4
        obtain ⟨rfl, rfl⟩ := k4
        simp [m__law_draw, start, hf0, h0, h1, atN, hl, atI_of hp, hx, hb]
    · obtain ⟨r, c', k1, k2, k3, k4⟩ := fin 0 (by omega)
      refine ⟨r, c', k1, k2, k3, ?_⟩
      rw [if_neg (by decide)] at k4
      obtain ⟨rfl, rfl⟩ := k4
      simp [m__law_draw, start, hf0, h0, h1, atN, hl]
theorem begin_ok (ns : List Int) (hn : ns.length ≤ 63) : ∃ c, Dr c ∧ m__law_begin [.scr false (ns.map .int)] [] = .ok (.cel 0) [c] := by
  have e : ∀ (l : List Int) (acc : List AV) (σ : AS), σ = [some (.scr false (ns.map .int)), none] → acc.length + l.length ≤ 16777216 → lcL (gNm 1) tYes (eCall cInt (aCons (eVar 1) aNil)) σ (l.map AV.int) acc [] = .ok (acc ++ l.map AV.int) [] := by
    intro l
    induction l with
    | nil => intro acc σ _ _; simp
    | cons x l ih =>
      intro acc σ hσ hl
      subst hσ
      simp at hl
      rw [List.map_cons]
      unfold lcL
      have hlt : acc.length < 16777216 := by omega
      simp [hlt]
      rw [ih (acc ++ [AV.int x]) _ rfl (by simp; omega)]
      simp
  refine ⟨.lst [.lst (ns.map .int), .int 0, .int 0, .int 7], ⟨ns, 0, 0, 7, rfl, by decide, by decide⟩, ?_⟩
  have hc : cut (ns.map AV.int) none (some 63) = ns.map AV.int := by
    rw [cut_to (by decide), List.take_of_length_le (by simp; omega)]
  have e2 := e ns [] _ rfl (by simp; omega)
  simp [m__law_begin, start, hc, wipe, e2]
/-- d, row: one of the row's items -/
theorem pick_ok {c : HC} {t : AH} {v : AV} {xs : List AV} (hd : Dr c) (hv : ∀ c, seqOf (c :: t) v = some xs) (hc : v ≠ .cel 0) (h0 : 0 < xs.length) (h1 : xs.length < 1073741824) :
    ∃ x c', x ∈ xs ∧ Dr c' ∧ m__law_pick [.cel 0, v] (c :: t) = .ok x (c' :: t) := by
  obtain ⟨r, c', r0, r1, hd', e⟩ := draw_ok (t := t) (many := xs.length) hd (by omega) (by omega)
  obtain ⟨x, hx⟩ : ∃ x, xs[r.toNat]? = some x := ⟨_, List.getElem?_eq_getElem (by omega)⟩
  have hi : ∀ c, oIx v (.int r) (c :: t) = .ok x (c :: t) := fun c => by
    have hvc := hv c
    cases v with
    | tup ys => cases hvc; simp [atI_of r0, hx]
    | lst ys => cases hvc; simp [atI_of r0, hx]
    | scr b ys => cases hvc; simp [atI_of r0, hx]
    | cel n =>
      simp only [seqOf, lstOf] at hvc
      rw [z_ixC]
      split at hvc
      · rename_i ys hy
        cases hvc
        rw [hy]
        simp [atI_of r0, hx]
      · cases hvc
    | _ => cases hvc
  have hln : ∀ c, cLen [v] (c :: t) = .ok (.int xs.length) (c :: t) := fun c => by
    have hvc := hv c
    cases v with
    | tup ys => cases hvc; rfl
    | lst ys => cases hvc; rfl
    | scr b ys => cases hvc; rfl
    | cel n =>
      simp only [seqOf, lstOf] at hvc
      rw [z_lenC]
      split at hvc
      · rename_i ys hy
        cases hvc
        rw [hy]
      · cases hvc
    | _ => cases hvc
  refine ⟨x, c', List.mem_of_getElem? hx, hd', ?_⟩
  simp [m__law_pick, start, hln, e, hi]
/-- d, row: one of a text's signs -/
theorem pick_str {c : HC} {t : AH} {s : List Nat} (hd : Dr c) (h0 : 0 < s.length) (h1 : s.length < 1000000) :
    ∃ x c', x ∈ s ∧ Dr c' ∧ m__law_pick [.cel 0, .str s] (c :: t) = .ok (.str [x]) (c' :: t) := by
  obtain ⟨r, c', r0, r1, hd', e⟩ := draw_ok (t := t) (many := s.length) hd (by omega) (by omega)
  obtain ⟨x, hx⟩ : ∃ x, s[r.toNat]? = some x := ⟨_, List.getElem?_eq_getElem (by omega)⟩
  have hl : s.length ≤ 16777216 := by omega
  refine ⟨x, c', List.mem_of_getElem? hx, hd', ?_⟩
  simp [m__law_pick, start, hl, e, atI_of r0, hx]
/-! ### sameness -/
mutual
/-- data that _law_same compares, at most k deep -/
def plain : Nat → AV → Bool
  | _, .non => true
  | _, .bl _ => true
  | _, .int _ => true
  | _, .str s => s.all (· < 1114112)
  | k + 1, .tup xs => decide (xs.length ≤ 100000) && plains k xs
  | _, _ => false
def plains : Nat → List AV → Bool
  | _, [] => true
  | k, x :: xs => plain k x && plains k xs
end
mutual
def sameB : AV → AV → Bool
  | .tup xs, .tup ys => sameBs xs ys
  | .non, .non => true
  | .bl a, .bl b => a == b
  | .int a, .int b => a == b
  | .str a, .str b => a == b
  | _, _ => false
def sameBs : List AV → List AV → Bool
  | [], [] => true
  | x :: xs, y :: ys => sameB x y && sameBs xs ys
  | _, _ => false
end
mutual
theorem plain_fits : ∀ (k : Nat) (v : AV), plain k v = true → ∀ d, k ≤ d → v.fits d = true
  | k, .non, _, d, _ => by cases d <;> simp [AV.fits]
  | k, .bl _, _, d, _ => by cases d <;> simp [AV.fits]
  | k, .int _, _, d, _ => by cases d <;> simp [AV.fits]
  | k, .str s, h, d, _ => by cases d <;> (cases k <;> simpa [AV.fits, plain] using h)
  | 0, .tup xs, h, _, _ => by simp [plain] at h
  | k + 1, .tup xs, h, 0, hd => by omega
  | k + 1, .tup xs, h, d + 1, hd => by
    simp only [plain, Bool.and_eq_true] at h
    simp only [AV.fits]
    exact plains_fits k xs h.2 d (by omega)
  | k, .lst _, h, _, _ => by cases k <;> simp [plain] at h
  | k, .scr _ _, h, _, _ => by cases k <;> simp [plain] at h
  | k, .cel _, h, _, _ => by cases k <;> simp [plain] at h
  | k, .xcp _ _ _, h, _, _ => by cases k <;> simp [plain] at h
theorem plains_fits : ∀ (k : Nat) (xs : List AV), plains k xs = true → ∀ d, k ≤ d → AV.fitss d xs = true
  | _, [], _, d, _ => by simp [AV.fitss]
  | k, x :: xs, h, d, hd => by
    simp only [plains, Bool.and_eq_true] at h
    simp only [AV.fitss, Bool.and_eq_true]
    exact ⟨plain_fits k x h.1 d hd, plains_fits k xs h.2 d hd⟩
end
theorem plains_get : ∀ {k : Nat} {xs : List AV} {i : Nat} {x : AV}, plains k xs = true → xs[i]? = some x → plain k x = true
  | _, [], _, _, _, h => by simp at h
  | k, y :: xs, 0, x, h, e => by
    simp at e
    subst e
    simp only [plains, Bool.and_eq_true] at h
    exact h.1
  | k, y :: xs, i + 1, x, h, e => by
    simp only [plains, Bool.and_eq_true] at h
    exact plains_get h.2 (by simpa using e)
theorem sameBs_iff : ∀ {xs ys : List AV}, xs.length = ys.length → (sameBs xs ys = true ↔ ∀ (j : Nat) (x y : AV), xs[j]? = some x → ys[j]? = some y → sameB x y = true)
  | [], [], _ => by simp [sameBs]
  | x :: xs, y :: ys, h => by
    simp only [sameBs, Bool.and_eq_true]
    rw [sameBs_iff (by simpa using h)]
    constructor
    · rintro ⟨h1, h2⟩ j a b e1 e2
      cases j with
      | zero =>
        simp at e1 e2
        subst e1 e2
        exact h1
      | succ j => exact h2 j a b (by simpa using e1) (by simpa using e2)
    · intro h2
      exact ⟨h2 0 x y rfl rfl, fun j a b e1 e2 => h2 (j + 1) a b (by simpa using e1) (by simpa using e2)⟩
  | [], _ :: _, h => by cases h
  | _ :: _, [], h => by cases h
def isI : AV → Bool
  | .int _ => true
  | _ => false
theorem is_int_ok (v : AV) (h : AH) (hv : ∃ k, plain k v = true) : m__law_is_int [v] h = .ok (.bl (isI v)) h := by
  obtain ⟨k, hk⟩ := hv
  cases v <;> first | (simp [m__law_is_int, start, isTy, isI]; done) | (cases k <;> simp [plain] at hk)
theorem eq_plain {v w : AV} {k : Nat} {h : AH} (hk : k ≤ 60) (hv : plain k v = true) (hw : plain k w = true) : oEq v w h = .ok (.bl (v.eqv w)) h := by
  have f1 : flatten h v = v := by cases v <;> first | rfl | (cases k <;> simp [plain] at hv)
  have f2 : flatten h w = w := by cases w <;> first | rfl | (cases k <;> simp [plain] at hw)
  have g1 := plain_fits k v hv 60 hk
  have g2 := plain_fits k w hw 60 hk
  unfold oEq
  split
  · simp [AV.eqv]
  · rw [f1, f2, g1, g2]
    rfl
def isT : AV → Bool
  | .tup _ => true
  | _ => false
theorem same_base {k j : Nat} {v w : AV} {h : AH} (hj : j ≤ 60) (hv : plain j v = true) (hw : plain j w = true) (nt : isT v = false) : m__law_same (k + 1) [v, w] h = .ok (.bl (sameB v w)) h := by
  have iv := is_int_ok v h ⟨_, hv⟩
  have iw := is_int_ok w h ⟨_, hw⟩
  have eq := eq_plain (h := h) hj hv hw
  rw [same_succ]
  generalize m__law_same k = ms
  cases v with
  | tup xs => cases nt
  | lst _ => cases j <;> simp [plain] at hv
  | scr _ _ => cases j <;> simp [plain] at hv
  | cel _ => cases j <;> simp [plain] at hv
  | xcp _ _ _ => cases j <;> simp [plain] at hv
  | non => cases w <;> first | (simp [b__law_same, start, isTy, eq, iv, iw, isI, sameB, AV.eqv, AV.isN]; done) | (cases j <;> simp [plain] at hw)
  | bl b => cases w <;> first | (simp [b__law_same, start, isTy, eq, iv, iw, isI, sameB, AV.eqv, AV.isN]; done) | (cases j <;> simp [plain] at hw)
  | int b => cases w <;> first | (simp [b__law_same, start, isTy, eq, iv, iw, isI, sameB, AV.eqv, AV.isN]; done) | (cases j <;> simp [plain] at hw)
  | str b => cases w <;> first | (simp [b__law_same, start, isTy, eq, iv, iw, isI, sameB, AV.eqv, AV.isN]; done) | (cases j <;> simp [plain] at hw)
theorem same_tup {k : Nat} {xs ys zs : List AV} {h : AH} (hl : xs.length = ys.length) (hB : inBig (xs.length : Int) = true)
    (e : lcL (gNm 2) (tNot (tB (eCall (m__law_same k) (aCons (eOp2 oIx (eVar 0) (eVar 2)) (aCons (eOp2 oIx (eVar 1) (eVar 2)) (aNil)))))) (eVar 2) [some (.tup xs), some (.tup ys), none] (rng 0 xs.length) [] h = .ok zs h) :
    m__law_same (k + 1) [.tup xs, .tup ys] h = .ok (.bl ((zs.length : Int) == 0)) h := by
  rw [same_succ]
  have hle : ((xs.length : Int) == (ys.length : Int)) = true := by simp [hl]
  simp [b__law_same, start, isTy, hle, wipe, hB, e]
theorem same_ok : ∀ (k : Nat) (v w : AV) (h : AH), k ≤ 50 → plain k v = true → plain k w = true → m__law_same (k + 1) [v, w] h = .ok (.bl (sameB v w)) h := by
  intro k
  induction k with
  | zero =>
    intro v w h hk hv hw
    exact same_base (by omega) hv hw (by cases v <;> simp_all [plain, isT])
  | succ k ih =>
    intro v w h hk hv hw
    cases v with
    | tup xs =>
      cases w with
      | tup ys =>
        simp only [plain, Bool.and_eq_true, decide_eq_true_eq] at hv hw
        by_cases hl : xs.length = ys.length
        · obtain ⟨zs, h', e, hI⟩ := lcL_inv (g := gNm 2) (t := tNot (tB (eCall (m__law_same (k + 1)) (aCons (eOp2 oIx (eVar 0) (eVar 2)) (aCons (eOp2 oIx (eVar 1) (eVar 2)) (aNil)))))) (e := eVar 2) (σ := [some (.tup xs), some (.tup ys), none])
            (fun i acc h' => h' = h ∧ (acc = [] ↔ ∀ (j : Nat) (x y : AV), j < i → xs[j]? = some x → ys[j]? = some y → sameB x y = true)) (rng 0 xs.length) 0 [] h ⟨rfl, by simp⟩ (by simp; omega) fun i x acc h' hx ⟨e1, e2⟩ => by
              subst e1
              obtain ⟨hi, rfl⟩ := rng_get hx
              rw [Nat.zero_add] at e2 ⊢
              obtain ⟨a, ha⟩ : ∃ a, xs[i]? = some a := ⟨_, List.getElem?_eq_getElem hi⟩
              obtain ⟨b, hb⟩ : ∃ b, ys[i]? = some b := ⟨_, List.getElem?_eq_getElem (by omega)⟩
              have es := ih a b h' (by omega) (plains_get hv.2 ha) (plains_get hw.2 hb)
              refine ⟨_, _, !sameB a b, h', rfl, ?_, fun hs => ⟨rfl, ?_⟩, fun hs => ⟨.int (0 + (i : Int)), h', ?_, rfl, ?_⟩⟩
              · simp [atI_nat, ha, hb, es]
              · rw [e2]
                refine ⟨fun q j x y hj ex ey => ?_, fun q j x y hj => q j x y (by omega)⟩
                by_cases z : j = i
                · subst z
                  rw [ha] at ex
                  rw [hb] at ey
                  cases ex
                  cases ey
                  simpa using hs
                · exact q j x y (by omega) ex ey
              · simp
              · refine ⟨fun q => by simp at q, fun q => ?_⟩
                have := q i a b (by omega) ha hb
                rw [this] at hs
                cases hs
          obtain ⟨rfl, hz⟩ := hI
          rw [Nat.zero_add, rng_len] at hz
          have hlen : ((zs.length : Int) == 0) = sameB (.tup xs) (.tup ys) := by
            show _ = sameBs xs ys
            rw [Bool.eq_iff_iff, sameBs_iff hl]
            simp only [beq_iff_eq]
            constructor
            · intro q j x y ex ey
              exact hz.mp (List.length_eq_zero_iff.mp (by omega)) j x y (List.getElem?_eq_some_iff.mp ex).1 ex ey
            · intro q
              rw [hz.mpr fun j x y _ => q j x y]
              rfl
          have hBIG : inBig (xs.length : Int) = true := inBig_of (by omega) (by omega)
          rw [same_tup hl hBIG e, hlen]
        · have hne : ((xs.length : Int) == (ys.length : Int)) = false := by simp; omega
          have hs : sameB (.tup xs) (.tup ys) = false := by
            show sameBs xs ys = false
            have : ∀ (xs ys : List AV), xs.length ≠ ys.length → sameBs xs ys = false := by
              intro xs
              induction xs with
              | nil => intro ys h; cases ys <;> simp_all [sameBs]
              | cons x xs ih =>
                intro ys h
                cases ys with
                | nil => simp [sameBs]
                | cons y ys => simp [sameBs, ih ys (by simpa using h)]
            exact this xs ys hl
          rw [same_succ]
          generalize m__law_same (k + 1) = ms
          simp [b__law_same, start, isTy, hne, hs]
      | _ => first | (simp [plain] at hw; done) | (rw [same_succ]; generalize m__law_same (k + 1) = ms; simp [b__law_same, start, isTy, sameB])
    | _ => exact same_base (by omega) hv hw rfl
theorem sameB_refl : ∀ (v : AV) (k : Nat), plain k v = true → sameB v v = true := by
  intro v k
  induction k generalizing v with
  | zero => intro h; cases v <;> simp_all [plain, sameB]
  | succ k ih =>
    intro h
    cases v with
    | tup xs =>
      simp only [plain, Bool.and_eq_true] at h
      show sameBs xs xs = true
      rw [sameBs_iff rfl]
      intro j x y e1 e2
      rw [e1] at e2
      cases e2
      exact ih x (plains_get h.2 e1)
    | _ => simp_all [plain, sameB]
theorem same_refl {k : Nat} {v : AV} {h : AH} (hk : k ≤ 50) (hv : plain k v = true) : m__law_same (k + 1) [v, v] h = .ok (.bl true) h := by
  rw [same_ok k v v h hk hv hv, sameB_refl v k hv]
end MiL

end

section
set_option maxHeartbeats 4000000
/-! MiStr: texts: join and split. -/
namespace Mi
@[simp] theorem strsOf_map (ss : List (List Nat)) : strsOf (ss.map AV.str) = some ss := by
  induction ss with
  | nil => rfl
  | cons s r ih => rw [List.map_cons, strsOf, ih]; rfl
@[simp] theorem z_join (s : List Nat) (y : AV) (h : AH) : mJoin (.str s) y h = match seqOf h y with
  | some ys => (match strsOf ys with
    | some l => if lenSum s l ≤ LINE then .ok (.str (joinL s l)) h else .no
    | none => .no)
  | none => .no := by
  unfold mJoin
  cases e : seqOf h y <;> rfl
@[simp] theorem z_split (s t : List Nat) (h : AH) : mSplit (.str s) (.str t) h = if t ≠ [] ∧ s.length + 2 ≤ LINE ∧ t.all (· < 256) then .ok (.lst ((spl t 0 [] s).map .str)) h else .no := rfl
theorem pre_one (c x : Nat) (r : List Nat) : pre [c] (x :: r) = (x == c) := by
  unfold pre
  simp
theorem spl_c (c x : Nat) (acc r : List Nat) : spl [c] 0 acc (x :: r) = if (x == c) = true then acc :: spl [c] 0 [] r else spl [c] 0 (acc ++ [x]) r := by
  rw [spl, pre_one]
  rfl
theorem spl_last {c : Nat} : ∀ (s acc : List Nat), c ∉ s → spl [c] 0 acc s = [acc ++ s]
  | [], acc, _ => by simp [spl]
  | x :: s, acc, h => by
    have hx : (x == c) = false := by simp at h ⊢; exact fun z => h.1 z.symm
    rw [spl_c, hx]
    simp only [Bool.false_eq_true, if_false]
    rw [spl_last s (acc ++ [x]) (by simp at h; exact h.2)]
    simp
theorem spl_app {c : Nat} {r : List Nat} : ∀ (s acc : List Nat), c ∉ s → spl [c] 0 acc (s ++ c :: r) = (acc ++ s) :: spl [c] 0 [] r
  | [], acc, _ => by
    show spl [c] 0 acc (c :: r) = _
    rw [spl_c]
    simp
  | x :: s, acc, h => by
    have hx : (x == c) = false := by simp at h ⊢; exact fun z => h.1 z.symm
    show spl [c] 0 acc (x :: (s ++ c :: r)) = _
    rw [spl_c, hx]
    simp only [Bool.false_eq_true, if_false]
    rw [spl_app s (acc ++ [x]) (by simp at h; exact h.2)]
    simp
theorem spl_join {c : Nat} : ∀ (ss : List (List Nat)), ss ≠ [] → (∀ s ∈ ss, c ∉ s) → spl [c] 0 [] (joinL [c] ss) = ss
  | [], h, _ => absurd rfl h
  | [s], _, h => by
    show spl [c] 0 [] s = _
    rw [spl_last s [] (h s (by simp))]
    simp
  | s :: t :: r, _, h => by
    show spl [c] 0 [] (s ++ [c] ++ joinL [c] (t :: r)) = _
    rw [List.append_assoc]
    show spl [c] 0 [] (s ++ c :: joinL [c] (t :: r)) = _
    rw [spl_app s [] (h s (by simp)), spl_join (t :: r) (by simp) fun x hx => h x (List.mem_cons_of_mem _ hx)]
    simp
theorem lenSum_le {S : List Nat} {b : Nat} : ∀ (ss : List (List Nat)), (∀ s ∈ ss, s.length ≤ b) → lenSum S ss ≤ ss.length * (b + S.length)
  | [], _ => by simp [lenSum]
  | s :: r, h => by
    have h1 := h s (by simp)
    have h2 := lenSum_le (S := S) r fun x hx => h x (List.mem_cons_of_mem _ hx)
    simp only [lenSum, List.length_cons, Nat.add_mul, Nat.one_mul] at *
    omega
theorem joinL_len {S : List Nat} : ∀ (ss : List (List Nat)), (joinL S ss).length ≤ lenSum S ss
  | [] => by simp [joinL]
  | [s] => by simp [joinL, lenSum]
  | s :: t :: r => by
    have h := joinL_len (S := S) (t :: r)
    show (s ++ S ++ joinL S (t :: r)).length ≤ s.length + S.length + lenSum S (t :: r)
    simp only [List.length_append]
    omega
theorem joinL_mem {S : List Nat} : ∀ {ss : List (List Nat)} {x : Nat}, x ∈ joinL S ss → x ∈ S ∨ ∃ s ∈ ss, x ∈ s
  | [], x, h => by cases h
  | [s], x, h => .inr ⟨s, by simp, h⟩
  | s :: t :: r, x, h => by
    have h' : x ∈ s ++ S ++ joinL S (t :: r) := h
    simp only [List.mem_append] at h'
    rcases h' with (h' | h') | h'
    · exact .inr ⟨s, by simp, h'⟩
    · exact .inl h'
    · rcases joinL_mem h' with q | ⟨u, hu, q⟩
      · exact .inl q
      · exact .inr ⟨u, List.mem_cons_of_mem _ hu, q⟩
end Mi

end

section
set_option maxHeartbeats 4000000
/-! MiFun: plain words: dicts, heaps, loops. -/
namespace Mi
/-! ### steps -/
theorem if_t {c : T} {s t : S} {σ : AS} {h h1 : AH} (e : c σ h = .ok true h1) : sIf c s t σ h = s σ h1 := by
  show (c σ h).st σ (fun b h1 => if b = true then s σ h1 else t σ h1) = _
  rw [e]
  rfl
theorem if_f {c : T} {s t : S} {σ : AS} {h h1 : AH} (e : c σ h = .ok false h1) : sIf c s t σ h = t σ h1 := by
  show (c σ h).st σ (fun b h1 => if b = true then s σ h1 else t σ h1) = _
  rw [e]
  rfl
theorem if_no {c : T} {s : S} {σ : AS} {h h1 : AH} (e : c σ h = .ok false h1) : sIf c s sNx σ h = .nx σ h1 := if_f e
theorem ret_ok {x : E} {σ : AS} {h h1 : AH} {v : AV} (e : x σ h = .ok v h1) : sRet x σ h = .rt v h1 := by
  show (x σ h).st σ (fun v h1 => .rt v h1) = _
  rw [e]
  rfl
/-! ### keys -/
def AV.isKey (a : AV) : Bool := a.key1 || a.keyT
theorem key1_eqv {a b : AV} (ha : a.key1 = true) (hb : b.key1 = true) : a.eqv b = true ↔ a = b := by
  cases a <;> cases b <;> simp_all [AV.key1, AV.eqv]
theorem keys_eqv : ∀ {xs ys : List AV}, xs.all AV.key1 = true → ys.all AV.key1 = true → (AV.eqvs xs ys = true ↔ xs = ys)
  | [], [], _, _ => by simp [AV.eqvs]
  | [], _ :: _, _, _ => by simp [AV.eqvs]
  | _ :: _, [], _, _ => by simp [AV.eqvs]
  | x :: xs, y :: ys, h, g => by
    rw [List.all_cons, Bool.and_eq_true] at h g
    simp only [AV.eqvs, Bool.and_eq_true, key1_eqv h.1 g.1, keys_eqv h.2 g.2, List.cons.injEq]
theorem key_eqv {a b : AV} (ha : a.isKey = true) (hb : b.isKey = true) : a.eqv b = true ↔ a = b := by
  unfold AV.isKey at ha hb
  rw [Bool.or_eq_true] at ha hb
  rcases ha with ha | ha <;> rcases hb with hb | hb
  · exact key1_eqv ha hb
  · cases a <;> cases b <;> simp_all [AV.key1, AV.keyT, AV.eqv]
  · cases a <;> cases b <;> simp_all [AV.key1, AV.keyT, AV.eqv]
  · cases a with
    | tup xs =>
      cases b with
      | tup ys =>
        simp only [AV.eqv, keys_eqv ha hb, AV.tup.injEq]
      | _ => simp [AV.keyT] at hb
    | _ => simp [AV.keyT] at ha
abbrev KVs := List (AV × AV)
def keysOk (kvs : KVs) : Prop := ∀ kv ∈ kvs, kv.1.isKey = true
theorem look_nil (k : AV) : look [] k = none := rfl
theorem look_cons (a b k : AV) (r : KVs) : look ((a, b) :: r) k = if a.eqv k = true then some b else look r k := by
  unfold look
  rw [List.find?_cons]
  by_cases h : a.eqv k = true
  · rw [if_pos h, h]
    rfl
  · rw [if_neg h]
    simp only [Bool.not_eq_true] at h
    rw [h]
theorem look_snoc : ∀ (kvs : KVs) (a b k : AV), look (kvs ++ [(a, b)]) k = match look kvs k with | some v => some v | none => if a.eqv k = true then some b else none
  | [], a, b, k => by
    show look [(a, b)] k = _
    rw [look_cons]
    rfl
  | (x, y) :: r, a, b, k => by
    show look ((x, y) :: (r ++ [(a, b)])) k = _
    rw [look_cons, look_cons, look_snoc r]
    by_cases h : x.eqv k = true
    · rw [if_pos h, if_pos h]
    · rw [if_neg h, if_neg h]
theorem look_none {kvs : KVs} {k : AV} (h : (kvs.any fun kv => kv.1.eqv k) = false) : look kvs k = none := by
  induction kvs with
  | nil => rfl
  | cons p r ih =>
    obtain ⟨a, b⟩ := p
    rw [List.any_cons, Bool.or_eq_false_iff] at h
    rw [look_cons, if_neg (by rw [h.1]; decide)]
    exact ih h.2
theorem look_map {kvs : KVs} (hk : keysOk kvs) {k v k' : AV} (h : k.isKey = true) (h' : k'.isKey = true) (hm : (kvs.any fun kv => kv.1.eqv k) = true) : look (kvs.map fun kv => if kv.1.eqv k then (kv.1, v) else kv) k' = if k.eqv k' = true then some v else look kvs k' := by
  induction kvs with
  | nil => cases hm
  | cons p r ih =>
    obtain ⟨a, b⟩ := p
    have ha : a.isKey = true := hk (a, b) (by simp)
    have hr : keysOk r := fun kv q => hk kv (List.mem_cons_of_mem _ q)
    rw [List.map_cons]
    have nomap : (r.any fun kv => kv.1.eqv k) = false → r.map (fun kv => if kv.1.eqv k then (kv.1, v) else kv) = r := fun hn => by
      rw [List.any_eq_false] at hn
      conv => rhs; rw [← List.map_id r]
      exact List.map_congr_left fun kv q => by rw [if_neg (hn kv q)]; rfl
    by_cases e : a.eqv k = true
    · rw [if_pos e]
      have ea := (key_eqv ha h).mp e
      subst ea
      rw [look_cons, look_cons]
      by_cases e2 : a.eqv k' = true
      · rw [if_pos e2, if_pos e2]
      · rw [if_neg e2, if_neg e2, if_neg e2]
        by_cases hn : (r.any fun kv => kv.1.eqv a) = true
        · rw [ih hr hn, if_neg e2]
        · rw [nomap (by simpa using hn)]
    · rw [if_neg e, look_cons, look_cons]
      have hm' : (r.any fun kv => kv.1.eqv k) = true := by
        rw [List.any_cons, Bool.or_eq_true] at hm
        rcases hm with hm | hm
        · exact absurd hm e
        · exact hm
      by_cases e2 : a.eqv k' = true
      · have e3 := (key_eqv ha h').mp e2
        subst e3
        rw [if_pos e2, if_pos e2, if_neg fun z => e (by rw [(key_eqv h ha).mp z]; exact e2)]
      · rw [if_neg e2, if_neg e2]
        exact ih hr hm'
theorem look_put {kvs : KVs} (hk : keysOk kvs) {k v k' : AV} (h : k.isKey = true) (h' : k'.isKey = true) : look (put kvs k v) k' = if k.eqv k' = true then some v else look kvs k' := by
  unfold put
  by_cases hm : (kvs.any fun kv => kv.1.eqv k) = true
  · rw [if_pos hm]
    exact look_map hk h h' hm
  · rw [if_neg hm, look_snoc]
    by_cases e : k.eqv k' = true
    · rw [if_pos e]
      have e3 := (key_eqv h h').mp e
      subst e3
      rw [look_none (by simpa using hm), if_pos e]
    · rw [if_neg e, if_neg e]
      cases look kvs k' <;> rfl
theorem put_len (kvs : KVs) (k v : AV) : (put kvs k v).length ≤ kvs.length + 1 := by
  unfold put
  split
  · simp
  · simp
theorem put_keys {kvs : KVs} (hk : keysOk kvs) {k v : AV} (h : k.isKey = true) : keysOk (put kvs k v) := by
  unfold put
  split
  · intro kv q
    obtain ⟨x, hx, rfl⟩ := List.mem_map.mp q
    split
    · exact hk x hx
    · exact hk x hx
  · intro kv q
    rcases List.mem_append.mp q with q | q
    · exact hk kv q
    · simp at q
      subst q
      exact h
/-! ### the heap's end -/
section
variable {α : Type} (h : List α) (x y z : α) (r : List α)
@[simp] theorem get_app0 : (h ++ x :: r)[h.length]? = some x := by simp
@[simp] theorem get_app1 : (h ++ x :: y :: r)[h.length + 1]? = some y := by simp
@[simp] theorem set_app0 : (h ++ x :: r).set h.length z = h ++ z :: r := by simp
@[simp] theorem set_app1 : (h ++ x :: y :: r).set (h.length + 1) z = h ++ x :: z :: r := by simp
end
/-! ### loops -/
/-- a loop that goes on or returns -/
theorem forL_ret {g : G} {b : S} (I : Nat → AS → AH → Prop) (R : AV → AH → Prop) : ∀ (xs : List AV) (k : Nat) (σ : AS) (h : AH), I k σ h →
    (∀ (i : Nat) (x : AV) (σ : AS) (h : AH), xs[i]? = some x → I (k + i) σ h → ∃ σ1 h1, g x σ h = some (σ1, h1) ∧ ((∃ σ2 h2, (b σ1 h1 = .nx σ2 h2 ∨ b σ1 h1 = .ct σ2 h2) ∧ I (k + i + 1) σ2 h2) ∨ ∃ v h2, b σ1 h1 = .rt v h2 ∧ R v h2)) →
    (∃ σ' h', forL g b xs σ h = .nx σ' h' ∧ I (k + xs.length) σ' h') ∨ ∃ v h', forL g b xs σ h = .rt v h' ∧ R v h'
  | [], k, σ, h, h0, _ => .inl ⟨σ, h, rfl, by simpa using h0⟩
  | x :: xs, k, σ, h, h0, st => by
    obtain ⟨σ1, h1, e1, e2⟩ := st 0 x σ h rfl (by simpa using h0)
    rcases e2 with ⟨σ2, h2, e2, i2⟩ | ⟨v, h2, e2, r2⟩
    · have := forL_ret I R xs (k + 1) σ2 h2 (by simpa using i2) fun i y σ h hi hI => by
        obtain ⟨a, b', q1, q2⟩ := st (i + 1) y σ h (by simpa using hi) (by rw [show k + (i + 1) = k + 1 + i by omega]; exact hI)
        exact ⟨a, b', q1, by rw [show k + 1 + i + 1 = k + (i + 1) + 1 by omega]; exact q2⟩
      rcases this with ⟨σ', h', e3, i3⟩ | ⟨v, h', e3, i3⟩
      · refine .inl ⟨σ', h', ?_, by simpa [Nat.add_assoc, Nat.add_comm 1] using i3⟩
        unfold forL
        rw [e1]
        dsimp only
        rcases e2 with e2 | e2 <;> rw [e2] <;> exact e3
      · refine .inr ⟨v, h', ?_, i3⟩
        unfold forL
        rw [e1]
        dsimp only
        rcases e2 with e2 | e2 <;> rw [e2] <;> exact e3
    · refine .inr ⟨v, h2, ?_, r2⟩
      unfold forL
      rw [e1]
      dsimp only
      rw [e2]
theorem whileF_run {c : T} {b : S} (I : Nat → AS → AH → Prop) (F : AS → AH → Prop) (K : Nat)
    (st : ∀ (i : Nat) (σ : AS) (h : AH), i < K → I i σ h → ∃ h1 σ2 h2, c σ h = .ok true h1 ∧ (b σ h1 = .nx σ2 h2 ∨ b σ h1 = .ct σ2 h2) ∧ I (i + 1) σ2 h2)
    (fin : ∀ (σ : AS) (h : AH), I K σ h → ∃ h1, c σ h = .ok false h1 ∧ F σ h1) : ∀ (fuel i : Nat) (σ : AS) (h : AH), i ≤ K → K - i < fuel → I i σ h → ∃ σ' h', whileF c b fuel σ h = .nx σ' h' ∧ F σ' h'
  | 0, i, σ, h, _, hf, _ => by omega
  | f + 1, i, σ, h, hi, hf, hI => by
    by_cases e : i = K
    · subst e
      obtain ⟨h1, e1, e2⟩ := fin σ h hI
      exact ⟨σ, h1, by unfold whileF; rw [e1]; rfl, e2⟩
    · obtain ⟨h1, σ2, h2, e1, e2, e3⟩ := st i σ h (by omega) hI
      obtain ⟨σ', h', e4, e5⟩ := whileF_run I F K st fin f (i + 1) σ2 h2 (by omega) (by omega) e3
      refine ⟨σ', h', ?_, e5⟩
      unfold whileF
      rw [e1]
      simp only [Res.st_ok, if_true]
      rcases e2 with e2 | e2 <;> rw [e2] <;> exact e4
/-- nothing is taken -/
theorem lcL_none {g : G} {t : T} {e : E} {σ : AS} {h : AH} : ∀ (xs : List AV) (acc : List AV), (∀ x ∈ xs, ∃ σ1, g x σ h = some (σ1, h) ∧ t σ1 h = .ok false h) → lcL g t e σ xs acc h = .ok acc h
  | [], acc, _ => rfl
  | x :: xs, acc, st => by
    obtain ⟨σ1, e1, e2⟩ := st x (by simp)
    unfold lcL
    rw [e1]
    dsimp only
    rw [e2]
    simp only [Res.bind_ok, Bool.false_eq_true, if_false]
    exact lcL_none xs acc fun y hy => st y (List.mem_cons_of_mem _ hy)
/-- each is taken, the heap stays -/
theorem lcL_map {g : G} {t : T} {e : E} {σ : AS} {h : AH} {f : AV → AV} : ∀ (xs : List AV) (acc : List AV), acc.length + xs.length ≤ LINE → (∀ x ∈ xs, ∃ σ1, g x σ h = some (σ1, h) ∧ t σ1 h = .ok true h ∧ e σ1 h = .ok (f x) h) → lcL g t e σ xs acc h = .ok (acc ++ xs.map f) h
  | [], acc, _, _ => by simp
  | x :: xs, acc, hl, st => by
    obtain ⟨σ1, e1, e2, e3⟩ := st x (by simp)
    simp only [List.length_cons] at hl
    unfold lcL
    rw [e1]
    dsimp only
    rw [e2]
    simp only [Res.bind_ok, if_true]
    rw [if_pos (by omega), e3]
    simp only [Res.bind_ok]
    rw [lcL_map xs (acc ++ [f x]) (by simp only [List.length_append, List.length_cons, List.length_nil]; omega) fun y hy => st y (List.mem_cons_of_mem _ hy)]
    simp
/-- each is taken, the heap grows -/
theorem lcL_grow {g : G} {t : T} {e : E} {σ : AS} {f : AV → AV} {h0 : AH} : ∀ (xs : List AV) (acc : List AV) (u : AH), acc.length + xs.length ≤ LINE → (∀ x ∈ xs, ∀ u : AH, ∃ σ1 u', g x σ (h0 ++ u) = some (σ1, h0 ++ u) ∧ t σ1 (h0 ++ u) = .ok true (h0 ++ u) ∧ e σ1 (h0 ++ u) = .ok (f x) (h0 ++ u')) → ∃ u', lcL g t e σ xs acc (h0 ++ u) = .ok (acc ++ xs.map f) (h0 ++ u')
  | [], acc, u, _, _ => ⟨u, by simp⟩
  | x :: xs, acc, u, hl, st => by
    obtain ⟨σ1, u1, e1, e2, e3⟩ := st x (by simp) u
    simp only [List.length_cons] at hl
    obtain ⟨u2, e4⟩ := lcL_grow (g := g) (t := t) (e := e) (σ := σ) (f := f) (h0 := h0) xs (acc ++ [f x]) u1 (by simp only [List.length_append, List.length_cons, List.length_nil]; omega) fun y hy => st y (List.mem_cons_of_mem _ hy)
    refine ⟨u2, ?_⟩
    unfold lcL
    rw [e1]
    dsimp only
    rw [e2]
    simp only [Res.bind_ok, if_true]
    rw [if_pos (by omega), e3]
    simp only [Res.bind_ok]
    rw [e4]
    simp
def onInt (f : Int → AV) : AV → AV
  | .int i => f i
  | _ => .non
@[simp] theorem onInt_int (f : Int → AV) (i : Int) : onInt f (.int i) = f i := rfl
theorem rng_map (n : Nat) (f : Int → AV) : (rng 0 n).map (onInt f) = (List.range n).map fun (i : Nat) => f i := by
  unfold rng
  rw [List.map_map]
  exact List.map_congr_left fun i _ => by simp [onInt]
theorem mem_rng {n : Nat} {x : AV} (h : x ∈ rng 0 n) : ∃ i : Nat, i < n ∧ x = .int i := by
  unfold rng at h
  obtain ⟨i, hi, rfl⟩ := List.mem_map.mp h
  exact ⟨i, List.mem_range.mp hi, by simp⟩
theorem lcL_rng {g : G} {t : T} {e : E} {σ : AS} {h : AH} (f : Nat → AV) (n : Nat) (hl : n ≤ LINE) (st : ∀ i, i < n → ∃ σ1, g (.int (i : Int)) σ h = some (σ1, h) ∧ t σ1 h = .ok true h ∧ e σ1 h = .ok (f i) h) : lcL g t e σ (rng 0 n) [] h = .ok ((List.range n).map f) h := by
  have := lcL_map (g := g) (t := t) (e := e) (σ := σ) (h := h) (f := onInt fun i => f i.toNat) (rng 0 n) [] (by simp only [List.length_nil, rng_len]; omega) fun x hx => by
    obtain ⟨i, hi, rfl⟩ := mem_rng hx
    exact st i hi
  rw [rng_map n fun i => f i.toNat, List.nil_append] at this
  exact this
theorem lcL_rngG {g : G} {t : T} {e : E} {σ : AS} {h0 : AH} (f : Nat → AV) (n : Nat) (hl : n ≤ LINE) (st : ∀ i, i < n → ∀ u : AH, ∃ σ1 u', g (.int (i : Int)) σ (h0 ++ u) = some (σ1, h0 ++ u) ∧ t σ1 (h0 ++ u) = .ok true (h0 ++ u) ∧ e σ1 (h0 ++ u) = .ok (f i) (h0 ++ u')) : ∃ u, lcL g t e σ (rng 0 n) [] h0 = .ok ((List.range n).map f) (h0 ++ u) := by
  obtain ⟨u, this⟩ := lcL_grow (g := g) (t := t) (e := e) (σ := σ) (h0 := h0) (f := onInt fun i => f i.toNat) (rng 0 n) [] [] (by simp only [List.length_nil, rng_len]; omega) fun x hx => by
    obtain ⟨i, hi, rfl⟩ := mem_rng hx
    exact st i hi
  rw [rng_map n fun i => f i.toNat, List.nil_append, List.append_nil] at this
  exact ⟨u, this⟩
/-! ### tuples, lists -/
theorem in_tup {x : AV} {ys : List AV} {h : AH} (hx : x.flat = true) (ha : ys.all AV.flat = true) : oIn x (.tup ys) h = .ok (.bl (ys.any fun y => y.eqv x)) h := by
  have : (x.flat && ys.all AV.flat) = true := by rw [hx, ha]; rfl
  unfold oIn
  simp only [this, if_true]
theorem in_lst {x : AV} {ys : List AV} {h : AH} (hx : x.flat = true) (ha : ys.all AV.flat = true) : oIn x (.lst ys) h = .ok (.bl (ys.any fun y => y.eqv x)) h := by
  have : (x.flat && ys.all AV.flat) = true := by rw [hx, ha]; rfl
  unfold oIn
  simp only [this, if_true]
theorem lstOf_app {h u : AH} {v : AV} {xs : List AV} (e : lstOf h v = some xs) : lstOf (h ++ u) v = some xs := by
  cases v with
  | lst ys => exact e
  | cel n =>
    simp only [lstOf] at e ⊢
    cases z : h[n]? with
    | none => rw [z] at e; cases e
    | some o =>
      rw [z] at e
      rw [List.getElem?_append_left (List.getElem?_eq_some_iff.mp z).1, z]
      exact e
  | _ => cases e
theorem seqOf_of {h : AH} {v : AV} {xs : List AV} (e : lstOf h v = some xs) : seqOf h v = some xs := by
  cases v with
  | lst ys => exact e
  | cel n => exact e
  | _ => cases e
theorem lst_cases {h : AH} {v : AV} {xs : List AV} (e : lstOf h v = some xs) : v = .lst xs ∨ ∃ n, v = .cel n ∧ h[n]? = some (.lst xs) := by
  cases v with
  | lst ys => cases e; exact .inl rfl
  | cel n =>
    simp only [lstOf] at e
    split at e
    · rename_i ys z
      cases e
      exact .inr ⟨n, rfl, z⟩
    · cases e
  | _ => cases e
theorem ix_lst {h : AH} {v : AV} {xs : List AV} (e : lstOf h v = some xs) (i : Int) : oIx v (.int i) h = match atI xs i with | some v => .ok v h | none => .no := by
  rcases lst_cases e with rfl | ⟨n, rfl, z⟩
  · rfl
  · rw [z_ixC, z]
    try rfl
theorem sl_lst {h : AH} {v : AV} {xs : List AV} (e : lstOf h v = some xs) (lo hi : Option Int) : oSl v lo hi h = .ok (.lst (cut xs lo hi)) h := by
  rcases lst_cases e with rfl | ⟨n, rfl, z⟩
  · rfl
  · simp [oSl, e]
theorem len_lst {h : AH} {v : AV} {xs : List AV} (e : lstOf h v = some xs) : cLen [v] h = .ok (.int xs.length) h := by
  rcases lst_cases e with rfl | ⟨n, rfl, z⟩
  · rfl
  · rw [z_lenC, z]
theorem flatten_lst {h : AH} {v : AV} {xs : List AV} (e : lstOf h v = some xs) : flatten h v = .lst xs := by
  rcases lst_cases e with rfl | ⟨n, rfl, z⟩
  · rfl
  · simp [flatten, z]
theorem eq_lst {h : AH} {v w : AV} {xs ys : List AV} (e : lstOf h v = some xs) (f : lstOf h w = some ys) (hx : AV.fitss 59 xs = true) (hy : AV.fitss 59 ys = true) : oEq v w h = .ok (.bl (AV.eqvs xs ys)) h := by
  have e1 := flatten_lst e
  have e2 := flatten_lst f
  unfold oEq
  split
  · rcases lst_cases e with z | ⟨n, z, _⟩ <;> cases z
  · rw [e1, e2]
    simp only [AV.fits, AV.eqv, hx, hy, Bool.and_self, if_true]
theorem fitss_ints (d : Nat) (l : List Int) : AV.fitss d (l.map AV.int) = true := by
  induction l with
  | nil => cases d <;> rfl
  | cons a l ih =>
    rw [List.map_cons]
    simp only [AV.fitss, ih, Bool.and_true]
    cases d <;> rfl
theorem eqvs_ints : ∀ (l m : List Int), AV.eqvs (l.map AV.int) (m.map AV.int) = decide (l = m)
  | [], [] => by simp [AV.eqvs]
  | [], _ :: _ => by simp [AV.eqvs]
  | _ :: _, [] => by simp [AV.eqvs]
  | a :: l, b :: m => by
    simp only [List.map_cons, AV.eqvs, AV.eqv, eqvs_ints l m]
    rw [Bool.eq_iff_iff]
    simp
theorem atI_neg1 {α : Type} {xs : List α} (h : 0 < xs.length) : atI xs (-1) = xs[xs.length - 1]? := by
  unfold atI atN
  rw [if_neg (by decide), if_pos (by omega)]
  simp only [Option.bind_some]
  congr 1
  omega
theorem rangeMap_get {f : Nat → AV} {n i : Nat} (h : i < n) : ((List.range n).map f)[i]? = some (f i) := by
  rw [List.getElem?_map, List.getElem?_range h]
  rfl
theorem rangeMap_rev (f : Nat → AV) (n : Nat) : ((List.range n).map f).reverse = (List.range n).map fun i => f (n - 1 - i) := by
  apply List.ext_getElem
  · simp
  · intro i h1 h2
    simp
theorem rangeMap_set {f g : Nat → AV} {n j : Nat} {x : AV} (hx : g j = x) (hg : ∀ i, i < n → i ≠ j → g i = f i) : ((List.range n).map f).set j x = (List.range n).map g := by
  apply List.ext_getElem
  · simp
  · intro i h1 h2
    simp at h1
    rw [List.getElem_set]
    simp only [List.getElem_map, List.getElem_range]
    split
    · rename_i e
      rw [← e, hx]
    · rename_i e
      exact (hg i (by simpa using h1) (Ne.symm e)).symm
theorem rangeMap_congr {f g : Nat → AV} {n : Nat} (h : ∀ i, i < n → f i = g i) : (List.range n).map f = (List.range n).map g := List.map_congr_left fun i hi => h i (List.mem_range.mp hi)
theorem atN_nat {n i : Nat} (h : i < n) : atN n (i : Int) = some i := by
  unfold atN
  rw [if_pos (by omega), if_pos (by omega)]
  rfl
@[simp] theorem z_tupleT (xs : List AV) (h : AH) : cTuple [.tup xs] h = .ok (.tup xs) h := rfl
@[simp] theorem z_tupleL (xs : List AV) (h : AH) : cTuple [.lst xs] h = .ok (.tup xs) h := rfl
theorem z_tupleC {n : Nat} {xs : List AV} {h : AH} (e : h[n]? = some (.lst xs)) : cTuple [.cel n] h = .ok (.tup xs) h := by
  simp [cTuple, lstOf, e]
theorem z_revC {n : Nat} {xs : List AV} {h : AH} (e : h[n]? = some (.lst xs)) : oRev (.cel n) h = .ok (.lst xs.reverse) h := by
  simp [oRev, oRev.seqL, lstOf, e]
end Mi

end

section
set_option maxHeartbeats 4000000
/-! MiDraw: draws in comprehensions; popping. -/
namespace MiL
open Mi
/-- a comprehension whose items are drawn; the heap's tail may grow -/
theorem lcL_dr {g : G} {t : T} {e : E} {σ : AS} (P : AV → Prop) (t0 : AH) : ∀ (xs : List AV) (acc : List AV) (c : HC) (u : AH), Dr c → acc.length + xs.length ≤ 16777216 →
    (∀ x ∈ xs, ∀ (c : HC) (u : AH), Dr c → ∃ σ1 y c' u', g x σ (c :: (t0 ++ u)) = some (σ1, c :: (t0 ++ u)) ∧ t σ1 (c :: (t0 ++ u)) = .ok true (c :: (t0 ++ u)) ∧ e σ1 (c :: (t0 ++ u)) = .ok y (c' :: (t0 ++ u')) ∧ Dr c' ∧ P y) →
    ∃ ys c' u', lcL g t e σ xs acc (c :: (t0 ++ u)) = .ok (acc ++ ys) (c' :: (t0 ++ u')) ∧ Dr c' ∧ ys.length = xs.length ∧ ∀ y ∈ ys, P y
  | [], acc, c, u, hd, _, _ => ⟨[], c, u, by simp, hd, rfl, by simp⟩
  | x :: xs, acc, c, u, hd, hl, st => by
    obtain ⟨σ1, y, c1, u1, e1, e2, e3, hd1, py⟩ := st x (by simp) c u hd
    simp only [List.length_cons] at hl
    obtain ⟨ys, c2, u2, e4, hd2, l2, p2⟩ := lcL_dr P t0 xs (acc ++ [y]) c1 u1 hd1 (by simp only [List.length_append, List.length_cons, List.length_nil]; omega) fun z hz => st z (List.mem_cons_of_mem _ hz)
    refine ⟨y :: ys, c2, u2, ?_, hd2, by simp [l2], fun z hz => ?_⟩
    · unfold lcL
      rw [e1]
      dsimp only
      rw [e2]
      simp only [Res.bind_ok, if_true]
      rw [if_pos (by rw [line_is]; omega), e3]
      simp only [Res.bind_ok]
      rw [e4]
      simp
    · rcases List.mem_cons.mp hz with rfl | hz
      · exact py
      · exact p2 z hz
/-- the same without growth -/
theorem lcL_dr0 {g : G} {t : T} {e : E} {σ : AS} (P : AV → Prop) (t0 : AH) (xs : List AV) (c : HC) (hd : Dr c) (hl : xs.length ≤ 16777216)
    (st : ∀ x ∈ xs, ∀ (c : HC), Dr c → ∃ σ1 y c', g x σ (c :: t0) = some (σ1, c :: t0) ∧ t σ1 (c :: t0) = .ok true (c :: t0) ∧ e σ1 (c :: t0) = .ok y (c' :: t0) ∧ Dr c' ∧ P y) :
    ∃ ys c', lcL g t e σ xs [] (c :: t0) = .ok ys (c' :: t0) ∧ Dr c' ∧ ys.length = xs.length ∧ ∀ y ∈ ys, P y := by
  have key : ∀ (xs : List AV) (acc : List AV) (c : HC), Dr c → acc.length + xs.length ≤ 16777216 → (∀ x ∈ xs, ∀ (c : HC), Dr c → ∃ σ1 y c', g x σ (c :: t0) = some (σ1, c :: t0) ∧ t σ1 (c :: t0) = .ok true (c :: t0) ∧ e σ1 (c :: t0) = .ok y (c' :: t0) ∧ Dr c' ∧ P y) →
      ∃ ys c', lcL g t e σ xs acc (c :: t0) = .ok (acc ++ ys) (c' :: t0) ∧ Dr c' ∧ ys.length = xs.length ∧ ∀ y ∈ ys, P y := by
    intro xs
    induction xs with
    | nil => exact fun acc c hd _ _ => ⟨[], c, by simp, hd, rfl, by simp⟩
    | cons x xs ih =>
      intro acc c hd hl st
      obtain ⟨σ1, y, c1, e1, e2, e3, hd1, py⟩ := st x (by simp) c hd
      simp only [List.length_cons] at hl
      obtain ⟨ys, c2, e4, hd2, l2, p2⟩ := ih (acc ++ [y]) c1 hd1 (by simp only [List.length_append, List.length_cons, List.length_nil]; omega) fun z hz => st z (List.mem_cons_of_mem _ hz)
      refine ⟨y :: ys, c2, ?_, hd2, by simp [l2], fun z hz => ?_⟩
      · unfold lcL
        rw [e1]
        dsimp only
        rw [e2]
        simp only [Res.bind_ok, if_true]
        rw [if_pos (by rw [line_is]; omega), e3]
        simp only [Res.bind_ok]
        rw [e4]
        simp
      · rcases List.mem_cons.mp hz with rfl | hz
        · exact py
        · exact p2 z hz
  exact key xs [] c hd (by simpa using hl) st
theorem mem_erase_or {α : Type} {l : List α} {i : Nat} {x y : α} (hy : l[i]? = some y) (hx : x ∈ l) : x = y ∨ x ∈ l.eraseIdx i := by
  induction l generalizing i with
  | nil => cases hx
  | cons a l ih =>
    cases i with
    | zero =>
      simp at hy
      subst hy
      rcases List.mem_cons.mp hx with h | h
      · exact .inl h
      · exact .inr h
    | succ i =>
      rcases List.mem_cons.mp hx with h | h
      · exact .inr (by rw [h]; simp)
      · rcases ih (by simpa using hy) h with h | h
        · exact .inl h
        · exact .inr (by simp [h])
/-- one of a list in the cell n + 1 is taken out -/
theorem popAt_ok {c : HC} {t : AH} {n : Nat} {xs : List AV} {r : Int} {x : AV} (hn : t[n]? = some (.lst xs)) (r0 : 0 ≤ r) (hx : xs[r.toNat]? = some x) : mPopAt (.cel (n + 1)) (.int r) (c :: t) = .ok x (c :: t.set n (.lst (xs.eraseIdx r.toNat))) := by
  have hl := (List.getElem?_eq_some_iff.mp hx).1
  unfold mPopAt
  simp only [List.getElem?_cons_succ, hn]
  have : atN xs.length r = some r.toNat := by
    unfold atN
    rw [if_pos r0, if_pos (by omega)]
  rw [this]
  simp only [hx, List.set_cons_succ]
end MiL

end

section
namespace Lk74
open Mi MiL
/-! ### the terms -/
def names : List String := []
def sub (c d : String) : Option Bool := if ((c == "DeedError" || names.contains c) && (d == "DeedError" || names.contains d)) = true then some (c == d || d == "DeedError") else none
def m__law_pop : List AV → M AV := mDef 2 2 (sRet (eM1 "list" mPopAt (eVar 1) (eCall m__law_draw (aCons (eVar 0) (aCons (eCall cLen (aCons (eVar 1) (aNil))) (aNil))))))
def e__law_long_bounds_0 : E := eCall m__law_pop (aCons (eVar 0) (aCons (eVar 2) (aNil)))
def s__law_long_bounds_0 : S := sSeq (sAsg (eCall m__law_draw (aCons (eVar 0) (aCons (eC (.int 6)) (aNil)))) (gNm 7)) (sSeq (sAug 5 oIadd (eVar 7)) (sAsg (eOp2 oAdd (eLst (aCons (eTup (aCons (eOp2 oIx (eVar 3) (eOp2 oSub (eVar 6) (eC (.int 1)))) (aCons (eOp2 oIx (eVar 3) (eVar 6)) (aCons (eVar 7) (aNil))))) (aNil))) (eVar 4)) (gNm 4)))
def m__law_long_bounds : List AV → M AV := mDef 2 8 (sSeq (sAsg (eLrg true (eC (.int 0)) (eVar 1)) (gNm 2)) (sSeq (sAsg (eLc (iRng1 (eVar 1)) (gNm 6) (tYes) (e__law_long_bounds_0) [6]) (gNm 3)) (sSeq (sAsg (eLst (aNil)) (gNm 4)) (sSeq (sAsg (eC (.int 0)) (gNm 5)) (sSeq (sFor (iRng2 (eC (.int 1)) (eVar 1)) (gNm 6) (s__law_long_bounds_0)) (sRet (eOp2 oAdd (eLst (aCons (eTup (aCons (eOp2 oIx (eVar 3) (eOp2 oSub (eVar 1) (eC (.int 1)))) (aCons (eOp1 oNeg (eC (.int 1))) (aCons (eOp2 oSub (eOp2 oSub (eCall m__law_draw (aCons (eVar 0) (aCons (eC (.int 3)) (aNil)))) (eC (.int 1))) (eVar 5)) (aNil))))) (aNil))) (eVar 4))))))))
def e__law_marks_0 : E := eCall m__law_draw (aCons (eVar 0) (aCons (eVar 2) (aNil)))
def m__law_marks : List AV → M AV := mDef 2 4 (sSeq (sAsg (eCall m__law_pick (aCons (eVar 0) (aCons (eLst (aCons (eC (.int 3)) (aCons (eC (.int 30)) (aCons (eC (.int 1000)) (aNil))))) (aNil)))) (gNm 2)) (sRet (eOp2 oAdd (eLst (aCons (eC (.int 0)) (aNil))) (eLc (iRng1 (eVar 1)) (gNm 3) (tYes) (e__law_marks_0) [3]))))
def s__law_any_bounds_0 : S := sSeq (sAsg (eCall m__law_draw (aCons (eVar 0) (aCons (eOp2 oAdd (eVar 1) (eC (.int 1))) (aNil)))) (gNm 6)) (sSeq (sAsg (eCall m__law_draw (aCons (eVar 0) (aCons (eOp2 oAdd (eVar 1) (eC (.int 1))) (aNil)))) (gNm 7)) (sSeq (sAsg (eOp2 oSub (eCall m__law_draw (aCons (eVar 0) (aCons (eC (.int 13)) (aNil)))) (eC (.int 8))) (gNm 8)) (sSeq (sIf (tB (eOp2 oGt (eVar 3) (eC (.int 0)))) (sAsg (eOp2 oSub (eOp2 oSub (eOp2 oIx (eVar 2) (eVar 7)) (eOp2 oIx (eVar 2) (eVar 6))) (eCall m__law_pick (aCons (eVar 0) (aCons (eLst (aCons (eC (.int 0)) (aCons (eC (.int 0)) (aCons (eC (.int 0)) (aCons (eC (.int 1)) (aCons (eC (.int 6)) (aNil))))))) (aNil))))) (gNm 8)) (sNx)) (sIf (tB (eOp2 oNe (eVar 6) (eVar 7))) (sDrop (eM1 "list" mAppend (eVar 4) (eTup (aCons (eOp2 oSub (eVar 6) (eC (.int 1))) (aCons (eOp2 oSub (eVar 7) (eC (.int 1))) (aCons (eVar 8) (aNil))))))) (sIf (tB (eOp2 oGt (eVar 6) (eC (.int 0)))) (sDrop (eM1 "list" mAppend (eVar 4) (eTup (aCons (eOp2 oSub (eVar 6) (eC (.int 1))) (aCons (eOp2 oSub (eVar 6) (eC (.int 1))) (aCons (eCall cMin2 (aCons (eVar 8) (aCons (eC (.int 0)) (aNil)))) (aNil))))))) (sNx))))))
def m__law_any_bounds : List AV → M AV := mDef 2 10 (sSeq (sAsg (eCall m__law_marks (aCons (eVar 0) (aCons (eVar 1) (aNil)))) (gNm 2)) (sSeq (sAsg (eCall m__law_draw (aCons (eVar 0) (aCons (eC (.int 3)) (aNil)))) (gNm 3)) (sSeq (sAsg (eLstC (aNil)) (gNm 4)) (sSeq (sFor (iRng1 (eCall m__law_draw (aCons (eVar 0) (aCons (eOp2 oAdd (eOp2 oMul (eC (.int 3)) (eVar 1)) (eC (.int 1))) (aNil))))) (gNm 5) (s__law_any_bounds_0)) (sSeq (sIf (tAnd (tB (eOp2 oEq (eVar 3) (eC (.int 2)))) (tB (eOp2 oGt (eCall cLen (aCons (eVar 4) (aNil))) (eC (.int 0))))) (sSeq (sAsg (eCall m__law_draw (aCons (eVar 0) (aCons (eCall cLen (aCons (eVar 4) (aNil))) (aNil)))) (gNm 5)) (sSeq (sAsg (eOp2 oIx (eVar 4) (eVar 5)) (gNm 9)) (sSet (eTup (aCons (eOp2 oIx (eVar 9) (eC (.int 0))) (aCons (eOp2 oIx (eVar 9) (eC (.int 1))) (aCons (eOp2 oAdd (eOp2 oIx (eVar 9) (eC (.int 2))) (eCall cInt (aCons (eOp2 oNe (eOp2 oIx (eVar 9) (eC (.int 0))) (eOp2 oIx (eVar 9) (eC (.int 1)))) (aNil)))) (aNil))))) (eVar 4) (eVar 5)))) (sNx)) (sRet (eVar 4)))))))
def e__law_bounds_0 : E := eTup (aCons (eOp1 oNeg (eC (.int 1))) (aCons (eVar 4) (aCons (eC (.int 0)) (aNil))))
def e__law_bounds_1 : E := eCall m__law_pop (aCons (eVar 0) (aCons (eVar 3) (aNil)))
def m__law_bounds : List AV → M AV := mDef 2 5 (sSeq (sAsg (eLcC (iRng1 (eVar 1)) (gNm 4) (tYes) (e__law_bounds_0) [4]) (gNm 2)) (sSeq (sIf (tAnd (tB (eOp2 oGt (eVar 1) (eC (.int 0)))) (tB (eOp2 oEq (eCall m__law_draw (aCons (eVar 0) (aCons (eC (.int 3)) (aNil)))) (eC (.int 1))))) (sDrop (eM1 "list" mExtend (eVar 2) (eCall m__law_long_bounds (aCons (eVar 0) (aCons (eVar 1) (aNil)))))) (sDrop (eM1 "list" mExtend (eVar 2) (eCall m__law_any_bounds (aCons (eVar 0) (aCons (eVar 1) (aNil))))))) (sSeq (sIf (tB (eOp2 oEq (eCall m__law_draw (aCons (eVar 0) (aCons (eC (.int 3)) (aNil)))) (eC (.int 1)))) (sSeq (sAsg (eCall cListC (aCons (eVar 2) (aNil))) (gNm 3)) (sAsg (eLcC (iRng1 (eCall cLen (aCons (eVar 2) (aNil)))) (gNm 4) (tYes) (e__law_bounds_1) [4]) (gNm 2))) (sNx)) (sRet (eCall cTuple (aCons (eVar 2) (aNil)))))))
def m__law_more : List AV → M AV := mDef 2 5 (sSeq (sIf (tB (eOp2 oEq (eCall cLen (aCons (eVar 1) (aNil))) (eC (.int 0)))) (sRet (eVar 1)) (sNx)) (sSeq (sAsg (eCall m__law_draw (aCons (eVar 0) (aCons (eOp2 oAdd (eCall cLen (aCons (eVar 1) (aNil))) (eC (.int 1))) (aNil)))) (gNm 2)) (sSeq (sAsg (eCall m__law_pick (aCons (eVar 0) (aCons (eVar 1) (aNil)))) (gNm 3)) (sSeq (sAsg (eOp2 oAdd (eOp2 oIx (eVar 3) (eC (.int 2))) (eCall m__law_pick (aCons (eVar 0) (aCons (eLst (aCons (eOp1 oNeg (eC (.int 2))) (aCons (eC (.int 0)) (aCons (eC (.int 1)) (aCons (eC (.int 1)) (aCons (eC (.int 5)) (aNil))))))) (aNil))))) (gNm 4)) (sSeq (sIf (tB (eOp2 oEq (eOp2 oIx (eVar 3) (eC (.int 0))) (eOp2 oIx (eVar 3) (eC (.int 1))))) (sAsg (eCall cMin2 (aCons (eVar 4) (aCons (eC (.int 0)) (aNil)))) (gNm 4)) (sNx)) (sRet (eOp2 oAdd (eOp2 oAdd (eSl (eVar 1) oNo (oAt (eVar 2))) (eTup (aCons (eTup (aCons (eOp2 oIx (eVar 3) (eC (.int 0))) (aCons (eOp2 oIx (eVar 3) (eC (.int 1))) (aCons (eVar 4) (aNil))))) (aNil)))) (eSl (eVar 1) (oAt (eVar 2)) oNo))))))))
def e__law_starts_0 : E := eC (.int 0)
def s__law_starts_0 : S := sSet (eCall cMax2 (aCons (eOp2 oIx (eVar 4) (eOp2 oAdd (eOp2 oIx (eVar 5) (eC (.int 1))) (eC (.int 1)))) (aCons (eOp2 oAdd (eOp2 oIx (eVar 2) (eOp2 oAdd (eOp2 oIx (eVar 5) (eC (.int 0))) (eC (.int 1)))) (eOp2 oIx (eVar 5) (eC (.int 2)))) (aNil)))) (eVar 4) (eOp2 oAdd (eOp2 oIx (eVar 5) (eC (.int 1))) (eC (.int 1)))
def s__law_starts_1 : S := sSeq (sAsg (eCall cListC (aCons (eVar 2) (aNil))) (gNm 4)) (sSeq (sFor (iSeq (eVar 1)) (gNm 5) (s__law_starts_0)) (sSeq (sIf (tB (eOp2 oEq (eVar 4) (eVar 2))) (sRet (eCall cTuple (aCons (eSl (eVar 2) (oAt (eC (.int 1))) oNo) (aNil)))) (sNx)) (sAsg (eVar 4) (gNm 2))))
def m__law_starts : List AV → M AV := mDef 2 7 (sSeq (sAsg (eLc (iRng1 (eOp2 oAdd (eVar 0) (eC (.int 1)))) (gNm 6) (tYes) (e__law_starts_0) [6]) (gNm 2)) (sSeq (sFor (iRng1 (eOp2 oAdd (eVar 0) (eC (.int 2)))) (gNm 3) (s__law_starts_1)) (sRet (eC .non))))
def s__law_gaps_0 : S := sSeq (sAsg (eTup (aCons (eOp2 oIx (eVar 2) (eC (.int 0))) (aCons (eOp2 oIx (eVar 2) (eC (.int 1))) (aNil)))) (gNm 3)) (sIf (tOr (tB (eOp2 oNotIn (eVar 3) (eVar 1))) (tB (eOp2 oGt (eOp2 oIx (eVar 2) (eC (.int 2))) (eOp2 oIx (eVar 1) (eVar 3))))) (sSet (eOp2 oIx (eVar 2) (eC (.int 2))) (eVar 1) (eVar 3)) (sNx))
def m__law_gaps : List AV → M AV := mDef 1 4 (sSeq (sAsg (eDic0 true) (gNm 1)) (sSeq (sFor (iSeq (eVar 0)) (gNm 2) (s__law_gaps_0)) (sRet (eVar 1))))
def s__law_along_0 : S := sSeq (sAsg (eTup (aCons (eOp2 oIx (eVar 1) (eOp2 oSub (eVar 3) (eC (.int 1)))) (aCons (eOp2 oIx (eVar 1) (eVar 3)) (aNil)))) (gNm 4)) (sSeq (sIf (tB (eOp2 oNotIn (eVar 4) (eVar 0))) (sRet (eC .non)) (sNx)) (sAug 2 oIadd (eOp2 oIx (eVar 0) (eVar 4))))
def m__law_along : List AV → M AV := mDef 2 5 (sSeq (sAsg (eC (.int 0)) (gNm 2)) (sSeq (sFor (iRng2 (eC (.int 1)) (eCall cLen (aCons (eVar 1) (aNil)))) (gNm 3) (s__law_along_0)) (sRet (eVar 2))))
def e__law_is_steps_0 : E := eC (.int 1)
def t__law_is_steps_0 : T := tOr (tNot (tB (eCall m__law_is_int (aCons (eVar 2) (aNil))))) (tNot (tB (eChain oLe oLt (eOp1 oNeg (eC (.int 1))) (eVar 2) (eVar 0))))
def m__law_is_steps : List AV → M AV := mDef 2 3 (sSeq (sIf (tOr (tNot (tB (eOp1 (oIsTy "tuple") (eVar 1)))) (tB (eOp2 oEq (eCall cLen (aCons (eVar 1) (aNil))) (eC (.int 0))))) (sRet (eC (.bl false))) (sNx)) (sRet (eOp2 oEq (eCall cLen (aCons (eLc (iSeq (eVar 1)) (gNm 2) (t__law_is_steps_0) (e__law_is_steps_0) [2]) (aNil))) (eC (.int 0)))))
def s__law_is_ring_0 : S := sIf (tB (eOp2 oIn (eOp2 oIx (eVar 2) (eVar 3)) (eSl (eVar 2) oNo (oAt (eVar 3))))) (sRet (eC (.bl false))) (sNx)
def m__law_is_ring : List AV → M AV := mDef 3 5 (sSeq (sIf (tNot (tB (eCall m__law_is_steps (aCons (eVar 0) (aCons (eVar 2) (aNil)))))) (sRet (eC (.bl false))) (sNx)) (sSeq (sFor (iRng1 (eCall cLen (aCons (eVar 2) (aNil)))) (gNm 3) (s__law_is_ring_0)) (sSeq (sAsg (eCall m__law_along (aCons (eVar 1) (aCons (eOp2 oAdd (eVar 2) (eSl (eVar 2) oNo (oAt (eC (.int 1))))) (aNil)))) (gNm 4)) (sRet (eAnd (eOp1 oNotN (eVar 4)) (eOp2 oGt (eVar 4) (eC (.int 0))))))))
def m__law_is_chain : List AV → M AV := mDef 5 5 (sSeq (sIf (tOr (tNot (tB (eCall m__law_is_steps (aCons (eVar 0) (aCons (eVar 2) (aNil)))))) (tOr (tB (eOp2 oNe (eOp2 oIx (eVar 2) (eC (.int 0))) (eOp1 oNeg (eC (.int 1))))) (tB (eOp2 oNe (eOp2 oIx (eVar 2) (eOp1 oNeg (eC (.int 1)))) (eVar 3))))) (sRet (eC (.bl false))) (sNx)) (sRet (eCall (m__law_same 8) (aCons (eVar 4) (aCons (eCall m__law_along (aCons (eVar 1) (aCons (eVar 2) (aNil)))) (aNil))))))
def e__law_is_told_0 : E := eC (.int 1)
def t__law_is_told_0 : T := tNot (tB (eCall m__law_is_chain (aCons (eVar 0) (aCons (eVar 4) (aCons (eOp2 oIx (eOp2 oIx (eVar 2) (eC (.int 2))) (eVar 5)) (aCons (eVar 5) (aCons (eOp2 oIx (eVar 3) (eVar 5)) (aNil))))))))
def m__law_is_told : List AV → M AV := mDef 3 6 (sSeq (sAsg (eCall m__law_starts (aCons (eVar 0) (aCons (eVar 1) (aNil)))) (gNm 3)) (sSeq (sAsg (eCall m__law_gaps (aCons (eVar 1) (aNil))) (gNm 4)) (sSeq (sIf (tNot (tB (eOp1 (oIsTy "tuple") (eVar 2)))) (sRet (eC (.bl false))) (sNx)) (sSeq (sIf (tB (eOp1 oIsN (eVar 3))) (sRet (eAnd (eOp2 oEq (eCall cLen (aCons (eVar 2) (aNil))) (eC (.int 2))) (eAnd (eCall (m__law_same 8) (aCons (eC (.str [114, 105, 110, 103])) (aCons (eOp2 oIx (eVar 2) (eC (.int 0))) (aNil)))) (eCall m__law_is_ring (aCons (eVar 0) (aCons (eVar 4) (aCons (eOp2 oIx (eVar 2) (eC (.int 1))) (aNil)))))))) (sNx)) (sSeq (sIf (tOr (tB (eOp2 oNe (eCall cLen (aCons (eVar 2) (aNil))) (eC (.int 3)))) (tOr (tNot (tB (eCall (m__law_same 8) (aCons (eC (.str [115, 116, 97, 114, 116, 115])) (aCons (eOp2 oIx (eVar 2) (eC (.int 0))) (aNil)))))) (tNot (tB (eCall (m__law_same 8) (aCons (eVar 3) (aCons (eOp2 oIx (eVar 2) (eC (.int 1))) (aNil)))))))) (sRet (eC (.bl false))) (sNx)) (sSeq (sIf (tOr (tNot (tB (eOp1 (oIsTy "tuple") (eOp2 oIx (eVar 2) (eC (.int 2)))))) (tB (eOp2 oNe (eCall cLen (aCons (eOp2 oIx (eVar 2) (eC (.int 2))) (aNil))) (eVar 0)))) (sRet (eC (.bl false))) (sNx)) (sRet (eOp2 oEq (eCall cLen (aCons (eLc (iRng1 (eVar 0)) (gNm 5) (t__law_is_told_0) (e__law_is_told_0) [5]) (aNil))) (eC (.int 0))))))))))
def s_pass_over_0 : S := sIf (tB (eOp1 oNotN (eOp2 oIx (eVar 1) (eVar 4)))) (sSeq (sAsg (eOp2 oAdd (eOp2 oIx (eVar 1) (eVar 4)) (eVar 6)) (gNm 7)) (sIf (tOr (tB (eOp1 oIsN (eOp2 oIx (eVar 1) (eVar 5)))) (tB (eOp2 oGt (eVar 7) (eOp2 oIx (eVar 1) (eVar 5))))) (sSeq (sSet (eVar 7) (eVar 1) (eVar 5)) (sSeq (sSet (eVar 4) (eVar 2) (eVar 5)) (sAsg (eVar 5) (gNm 3)))) (sNx))) (sNx)
def m_pass_over : List AV → M AV := mDef 3 8 (sSeq (sAsg (eC .non) (gNm 3)) (sSeq (sFor (iSeq (eVar 0)) (gTp [gNm 4, gNm 5, gNm 6]) (s_pass_over_0)) (sRet (eVar 3))))
def s_ring_from_0 : S := sAsg (eOp2 oIx (eVar 0) (eVar 1)) (gNm 1)
def s_ring_from_1 : S := sSeq (sDrop (eM1 "list" mAppend (eVar 4) (eVar 5))) (sAsg (eOp2 oIx (eVar 0) (eVar 5)) (gNm 5))
def t_ring_from_0 : T := tAnd (tB (eOp2 oNe (eVar 5) (eVar 1))) (tB (eOp2 oLe (eCall cLen (aCons (eVar 4) (aNil))) (eOp2 oAdd (eVar 2) (eC (.int 1)))))
def m_ring_from : List AV → M AV := mDef 3 6 (sSeq (sFor (iRng1 (eOp2 oAdd (eVar 2) (eC (.int 2)))) (gNm 3) (s_ring_from_0)) (sSeq (sAsg (eLstC (aCons (eVar 1) (aNil))) (gNm 4)) (sSeq (sAsg (eOp2 oIx (eVar 0) (eVar 1)) (gNm 5)) (sSeq (sWhile 1000000 (t_ring_from_0) (s_ring_from_1)) (sRet (eCall cTuple (aCons (eOp1 oRev (eVar 4)) (aNil))))))))
def s_chain_to_0 : S := sDrop (eM1 "list" mAppend (eVar 3) (eOp2 oIx (eVar 0) (eOp2 oIx (eVar 3) (eOp1 oNeg (eC (.int 1))))))
def t_chain_to_0 : T := tAnd (tB (eOp2 oNe (eOp2 oIx (eVar 3) (eOp1 oNeg (eC (.int 1)))) (eOp1 oNeg (eC (.int 1))))) (tB (eOp2 oLe (eCall cLen (aCons (eVar 3) (aNil))) (eOp2 oAdd (eVar 2) (eC (.int 1)))))
def m_chain_to : List AV → M AV := mDef 3 4 (sSeq (sAsg (eLstC (aCons (eVar 1) (aNil))) (gNm 3)) (sSeq (sWhile 1000000 (t_chain_to_0) (s_chain_to_0)) (sRet (eCall cTuple (aCons (eOp1 oRev (eVar 3)) (aNil))))))
def s_starts_of_0 : S := sSet (eC .non) (eVar 2) (eVar 4)
def e_starts_of_0 : E := eOp2 oIx (eVar 2) (eVar 4)
def e_starts_of_1 : E := eCall m_chain_to (aCons (eVar 3) (aCons (eVar 4) (aCons (eVar 0) (aNil))))
def s_starts_of_1 : S := sSeq (sAsg (eCall m_pass_over (aCons (eVar 1) (aCons (eVar 2) (aCons (eVar 3) (aNil))))) (gNm 5)) (sIf (tB (eOp1 oIsN (eVar 5))) (sSeq (sAsg (eCall cTuple (aCons (eLc (iRng1 (eVar 0)) (gNm 4) (tYes) (e_starts_of_0) [4]) (aNil))) (gNm 7)) (sRet (eTup (aCons (eC (.str [115, 116, 97, 114, 116, 115])) (aCons (eVar 7) (aCons (eCall cTuple (aCons (eLc (iRng1 (eVar 0)) (gNm 4) (tYes) (e_starts_of_1) [4]) (aNil))) (aNil))))))) (sNx))
def m_starts_of : List AV → M AV := mDef 2 8 (sSeq (sAsg (eDsp [(eOp1 oNeg (eC (.int 1)), eC (.int 0))]) (gNm 2)) (sSeq (sAsg (eDic0 false) (gNm 3)) (sSeq (sFor (iRng1 (eVar 0)) (gNm 4) (s_starts_of_0)) (sSeq (sAsg (eC .non) (gNm 5)) (sSeq (sFor (iRng1 (eOp2 oAdd (eVar 0) (eC (.int 2)))) (gNm 6) (s_starts_of_1)) (sRet (eTup (aCons (eC (.str [114, 105, 110, 103])) (aCons (eCall m_ring_from (aCons (eVar 3) (aCons (eVar 5) (aCons (eVar 0) (aNil))))) (aNil))))))))))
def m_law : List AV → M AV := mDef 1 5 (sSeq (sAsg (eCall m__law_begin (aCons (eVar 0) (aNil))) (gNm 1)) (sSeq (sAsg (eCall m__law_pick (aCons (eVar 1) (aCons (eLst (aCons (eC (.int 2)) (aCons (eC (.int 0)) (aCons (eC (.int 1)) (aCons (eC (.int 3)) (aCons (eC (.int 30)) (aCons (eC (.int 4)) (aCons (eC (.int 12)) (aCons (eC (.int 5)) (aCons (eC (.int 7)) (aNil))))))))))) (aNil)))) (gNm 2)) (sSeq (sAsg (eCall m__law_bounds (aCons (eVar 1) (aCons (eVar 2) (aNil)))) (gNm 3)) (sSeq (sIf (tNot (tB (eCall m__law_is_told (aCons (eVar 2) (aCons (eVar 3) (aCons (eCall m_starts_of (aCons (eVar 2) (aCons (eVar 3) (aNil)))) (aNil))))))) (sRet (eC (.bl false))) (sNx)) (sSeq (sAsg (eCall m__law_more (aCons (eVar 1) (aCons (eVar 3) (aNil)))) (gNm 4)) (sSeq (sIf (tNot (tB (eCall m__law_is_told (aCons (eVar 2) (aCons (eVar 4) (aCons (eCall m_starts_of (aCons (eVar 2) (aCons (eVar 4) (aNil)))) (aNil))))))) (sRet (eC (.bl false))) (sNx)) (sRet (eCall m__law_is_told (aCons (eVar 2) (aCons (eVar 3) (aCons (eCall m_starts_of (aCons (eVar 2) (aCons (eVar 3) (aNil)))) (aNil))))))))))))
end Lk74

end

section
set_option maxHeartbeats 4000000
namespace Lk74
open PySem PySem.Spec L2 MiS
open PyProof.Rows hiding St
open Mi MiL
def top (i : Nat) : Stmt := PySem.Challenge.pw_deedoath_k74_starts_told.main.body.getD i (.Pass ⟨0, 0, 0, 0⟩)
def flds : List PySem.Str := []
structure Txt (P : Program) (K : Fg) (mg : PySem.Str → Option Value) (cl : String → Value) : Prop where
  b_abs : mg "abs" = none
  b_bool : mg "bool" = none
  b_int : mg "int" = none
  b_isinstance : mg "isinstance" = none
  b_len : mg "len" = none
  b_list : mg "list" = none
  b_max : mg "max" = none
  b_min : mg "min" = none
  b_range : mg "range" = none
  b_str : mg "str" = none
  b_tuple : mg "tuple" = none
  d__law_begin : DF K mg "_law_begin" "_law_begin" (top 6) ["script"]
  d__law_draw : DF K mg "_law_draw" "_law_draw" (top 7) ["d", "many"]
  d__law_pick : DF K mg "_law_pick" "_law_pick" (top 8) ["d", "row"]
  d__law_pop : DF K mg "_law_pop" "_law_pop" (top 9) ["d", "row"]
  d__law_long_bounds : DF K mg "_law_long_bounds" "_law_long_bounds" (top 21) ["d", "many"]
  d__law_marks : DF K mg "_law_marks" "_law_marks" (top 19) ["d", "many"]
  d__law_any_bounds : DF K mg "_law_any_bounds" "_law_any_bounds" (top 20) ["d", "many"]
  d__law_bounds : DF K mg "_law_bounds" "_law_bounds" (top 22) ["d", "many"]
  d__law_more : DF K mg "_law_more" "_law_more" (top 23) ["d", "bounds"]
  d__law_starts : DF K mg "_law_starts" "_law_starts" (top 12) ["many", "bounds"]
  d__law_gaps : DF K mg "_law_gaps" "_law_gaps" (top 13) ["bounds"]
  d__law_is_int : DF K mg "_law_is_int" "_law_is_int" (top 10) ["thing"]
  d__law_same : DF K mg "_law_same" "_law_same" (top 11) ["one", "other"]
  d__law_along : DF K mg "_law_along" "_law_along" (top 15) ["gaps", "row"]
  d__law_is_steps : DF K mg "_law_is_steps" "_law_is_steps" (top 14) ["many", "row"]
  d__law_is_ring : DF K mg "_law_is_ring" "_law_is_ring" (top 16) ["many", "gaps", "ring"]
  d__law_is_chain : DF K mg "_law_is_chain" "_law_is_chain" (top 17) ["many", "gaps", "chain", "step", "time"]
  d__law_is_told : DF K mg "_law_is_told" "_law_is_told" (top 18) ["many", "bounds", "told"]
  d_pass_over : DF K mg "pass_over" "pass_over" (top 1) ["bounds", "starts", "parents"]
  d_ring_from : DF K mg "ring_from" "ring_from" (top 2) ["parents", "step", "many"]
  d_chain_to : DF K mg "chain_to" "chain_to" (top 3) ["parents", "step", "many"]
  d_starts_of : DF K mg "starts_of" "starts_of" (top 4) ["many", "bounds"]
  d_law : DF K mg "law" "law" (top 24) ["script"]
section
variable {P : Program} {w : World} {K : Fg} {mg : PySem.Str → Option Value} {base : Heap} {cl : String → Value}
abbrev st__law_begin : Stmt := top 6
theorem sc__law_begin : FnScope ["script", "cell"] ["script"] (defScope st__law_begin) := ⟨rfl, rfl, rfl, by decide +kernel, rfl, by decide +kernel, by decide +kernel⟩
theorem ok__law_begin (T : Txt P K mg cl) : FOk P w K mg base cl 1 "_law_begin" m__law_begin := okM T.d__law_begin sc__law_begin fun f cdv A outer s H E hr => (
    qss_one (qs_ret (q_lstC (qa_cons (q_lc (own := [("cell", 1)]) rfl sc__law_begin.nd (qi_seq (q_slice (q_var 0) qo_none (qo_some (q_int)))) (blkOk_by (by kernel_rfl)) (fun _ _ _ _ _ => qgw_nm (i := 1) sc__law_begin.nd rfl (by first | exact Or.inl rfl | exact Or.inr rfl) (by decide)) (fun _ _ _ _ _ => qts_nil) (fun _ _ _ _ _ => q_callTy call_intM nx_int1 rfl T.b_int (by decide +kernel) (qa_cons (q_var 1) (qa_nil)))) (qa_cons (q_int) (qa_cons (q_int) (qa_cons (q_int) (qa_nil))))))))
abbrev st__law_draw : Stmt := top 7
theorem sc__law_draw : FnScope ["d", "many", "size", "found", "cell"] ["d", "many"] (defScope st__law_draw) := ⟨rfl, rfl, rfl, by decide +kernel, rfl, by decide +kernel, by decide +kernel⟩
theorem ok__law_draw (T : Txt P K mg cl) : FOk P w K mg base cl 1 "_law_draw" m__law_draw := okM T.d__law_draw sc__law_draw fun f cdv A outer s H E hr => (
    qss_cons (qs_if (qt_cmp op_gtM nx_gt (q_ix (hu_of hr) (q_var 0) (q_int) (fun _ _ => rfl)) (q_int) (nomark _))
    (qss_cons (qs_set (i := 3) sc__law_draw.nd rfl (by first | exact Or.inl rfl | exact Or.inr rfl) (q_ix (hu_of hr) (q_var 0) (q_int) (fun _ _ => rfl)))
    (qss_cons (qs_setIx (hu_of hr) (q_op op_fdivM nx_fdiv (q_var 3) (q_var 1)) (q_var 0) (q_int))
    (qss_one (qs_ret (q_op op_modM nx_mod (q_callTy call_intM nx_int1 rfl T.b_int (by decide +kernel) (qa_cons (q_var 3) (qa_nil))) (q_var 1))))))
    (qss_nil))
    (qss_cons (qs_set (i := 2) sc__law_draw.nd rfl (by first | exact Or.inl rfl | exact Or.inr rfl) (q_int))
    (qss_cons (qs_if (qt_cmp op_ltM nx_lt (q_ix (hu_of hr) (q_var 0) (q_int) (fun _ _ => rfl)) (q_callB call_lenM nx_len rfl T.b_len (by decide +kernel) (qa_cons (q_ix (hu_of hr) (q_var 0) (q_int) (fun _ _ => rfl)) (qa_nil))) (nomark _))
    (qss_cons (qs_set (i := 4) sc__law_draw.nd rfl (by first | exact Or.inl rfl | exact Or.inr rfl) (q_ix (hu_of hr) (q_ix (hu_of hr) (q_var 0) (q_int) (fun _ _ => rfl)) (q_ix (hu_of hr) (q_var 0) (q_int) (fun _ _ => rfl)) (fun _ _ => rfl)))
    (qss_one (qs_set (i := 2) sc__law_draw.nd rfl (by first | exact Or.inl rfl | exact Or.inr rfl) (q_op op_addM nx_add (q_op op_mulM nx_mul (q_int) (q_callB call_absM nx_abs rfl T.b_abs (by decide +kernel) (qa_cons (q_var 4) (qa_nil)))) (q_callTy call_intM nx_int1 rfl T.b_int (by decide +kernel) (qa_cons (q_cmp op_ltM nx_lt (q_var 4) (q_int) (nomark _)) (qa_nil)))))))
    (qss_nil))
    (qss_cons (qs_augIx (hu_of hr) (q_var 0) (q_int) (q_int) iop_addM nx_iadd)
    (qss_cons (qs_if (qt_cmp op_geM nx_ge (q_var 2) (q_op op_mulM nx_mul (q_int) (q_op op_powM nx_pow (q_int) (q_int))) (nomark _))
    (qss_cons (qs_set (i := 3) sc__law_draw.nd rfl (by first | exact Or.inl rfl | exact Or.inr rfl) (q_op op_modM nx_mod (q_callTy call_intM nx_int1 rfl T.b_int (by decide +kernel) (qa_cons (q_op op_fdivM nx_fdiv (q_var 2) (q_int)) (qa_nil))) (q_op op_shlM nx_shl (q_int) (q_int))))
    (qss_cons (qs_setIx (hu_of hr) (q_op op_fdivM nx_fdiv (q_var 3) (q_var 1)) (q_var 0) (q_int))
    (qss_one (qs_ret (q_op op_modM nx_mod (q_callTy call_intM nx_int1 rfl T.b_int (by decide +kernel) (qa_cons (q_var 3) (qa_nil))) (q_var 1))))))
    (qss_nil))
    (qss_cons (qs_setIx (hu_of hr) (q_op op_modM nx_mod (q_callTy call_intM nx_int1 rfl T.b_int (by decide +kernel) (qa_cons (q_op op_addM nx_add (q_op op_addM nx_add (q_op op_addM nx_add (q_op op_mulM nx_mul (q_ix (hu_of hr) (q_var 0) (q_int) (fun _ _ => rfl)) (q_int)) (q_op op_mulM nx_mul (q_op op_modM nx_mod (q_callTy call_intM nx_int1 rfl T.b_int (by decide +kernel) (qa_cons (q_var 2) (qa_nil))) (q_int)) (q_int))) (q_op op_mulM nx_mul (q_ix (hu_of hr) (q_var 0) (q_int) (fun _ _ => rfl)) (q_int))) (q_int)) (qa_nil))) (q_int)) (q_var 0) (q_int))
    (qss_one (qs_ret (q_op op_modM nx_mod (q_callTy call_intM nx_int1 rfl T.b_int (by decide +kernel) (qa_cons (q_op op_fdivM nx_fdiv (q_ix (hu_of hr) (q_var 0) (q_int) (fun _ _ => rfl)) (q_int)) (qa_nil))) (q_var 1))))))))))
abbrev st__law_pick : Stmt := top 8
theorem sc__law_pick : FnScope ["d", "row"] ["d", "row"] (defScope st__law_pick) := ⟨rfl, rfl, rfl, by decide +kernel, rfl, by decide +kernel, by decide +kernel⟩
theorem ok__law_pick (T : Txt P K mg cl) : FOk P w K mg base cl 2 "_law_pick" m__law_pick := okM T.d__law_pick sc__law_pick fun f cdv A outer s H E hr => (
    qss_one (qs_ret (q_ix (hu_of hr) (q_var 1) (q_call ((ok__law_draw T).mono (by first | decide | exact Nat.le_add_right _ _ | omega)) hr (takes_of rfl rfl rfl rfl) rfl (qa_cons (q_var 0) (qa_cons (q_callB call_lenM nx_len rfl T.b_len (by decide +kernel) (qa_cons (q_var 1) (qa_nil))) (qa_nil)))) (fun _ _ => rfl))))
abbrev st__law_pop : Stmt := top 9
theorem sc__law_pop : FnScope ["d", "row"] ["d", "row"] (defScope st__law_pop) := ⟨rfl, rfl, rfl, by decide +kernel, rfl, by decide +kernel, by decide +kernel⟩
theorem ok__law_pop (T : Txt P K mg cl) : FOk P w K mg base cl 2 "_law_pop" m__law_pop := okM T.d__law_pop sc__law_pop fun f cdv A outer s H E hr => (
    qss_one (qs_ret (q_m1 PySem.F.plainAttrs_list PySem.F.slot_list_pop PySem.F.type_list_pop mt_popAtM nx_popAt (q_var 1) (q_call ((ok__law_draw T).mono (by first | decide | exact Nat.le_add_right _ _ | omega)) hr (takes_of rfl rfl rfl rfl) rfl (qa_cons (q_var 0) (qa_cons (q_callB call_lenM nx_len rfl T.b_len (by decide +kernel) (qa_cons (q_var 1) (qa_nil))) (qa_nil)))))))
abbrev st__law_long_bounds : Stmt := top 21
theorem sc__law_long_bounds : FnScope ["d", "many", "left", "steps", "found", "total", "k", "gap"] ["d", "many"] (defScope st__law_long_bounds) := ⟨rfl, rfl, rfl, by decide +kernel, rfl, by decide +kernel, by decide +kernel⟩
theorem ok__law_long_bounds (T : Txt P K mg cl) : FOk P w K mg base cl 3 "_law_long_bounds" m__law_long_bounds := okM T.d__law_long_bounds sc__law_long_bounds fun f cdv A outer s H E hr => (
    qss_cons (qs_set (i := 2) sc__law_long_bounds.nd rfl (by first | exact Or.inl rfl | exact Or.inr rfl) (q_lrg1 true rfl rfl T.b_list rfl T.b_range (q_var 1)))
    (qss_cons (qs_setLc (i := 3) (own := [("k", 6)]) rfl sc__law_long_bounds.nd rfl rfl (sw_true rfl rfl rfl (by kernel_rfl)) (qi_rng1 rfl T.b_range (q_var 1)) (blkOk_by (by kernel_rfl)) (fun _ _ _ _ _ => qgw_nm (i := 6) sc__law_long_bounds.nd rfl (by first | exact Or.inl rfl | exact Or.inr rfl) (by decide)) (fun _ _ _ _ _ => qts_nil) (fun _ _ _ _ _ => q_call ((ok__law_pop T).mono (by first | decide | exact Nat.le_add_right _ _ | omega)) hr takes0 rfl (qa_cons (q_var 0) (qa_cons (q_var 2) (qa_nil)))))
    (qss_cons (qs_set (i := 4) sc__law_long_bounds.nd rfl (by first | exact Or.inl rfl | exact Or.inr rfl) (q_lst (qa_nil)))
    (qss_cons (qs_set (i := 5) sc__law_long_bounds.nd rfl (by first | exact Or.inl rfl | exact Or.inr rfl) (q_int))
    (qss_cons (qs_for (passes_of rfl) rfl (qi_rng2 rfl T.b_range (q_int) (q_var 1)) (qg_nm (i := 6) sc__law_long_bounds.nd rfl (by first | exact Or.inl rfl | exact Or.inr rfl))
    (qss_cons (qs_set (i := 7) sc__law_long_bounds.nd rfl (by first | exact Or.inl rfl | exact Or.inr rfl) (q_call ((ok__law_draw T).mono (by first | decide | exact Nat.le_add_right _ _ | omega)) hr (takes_of rfl rfl rfl rfl) rfl (qa_cons (q_var 0) (qa_cons (q_int) (qa_nil)))))
    (qss_cons (qs_aug (i := 5) sc__law_long_bounds.nd rfl (by first | exact Or.inl rfl | exact Or.inr rfl) (q_var 7) iop_addM nx_iadd)
    (qss_one (qs_set (i := 4) sc__law_long_bounds.nd rfl (by first | exact Or.inl rfl | exact Or.inr rfl) (q_op op_addM nx_add (q_lst (qa_cons (q_tup (qa_cons (q_ix (hu_of hr) (q_var 3) (q_op op_subM nx_sub (q_var 6) (q_int)) (fun _ _ => rfl)) (qa_cons (q_ix (hu_of hr) (q_var 3) (q_var 6) (fun _ _ => rfl)) (qa_cons (q_var 7) (qa_nil))))) (qa_nil))) (q_var 4)))))))
    (qss_one (qs_ret (q_op op_addM nx_add (q_lst (qa_cons (q_tup (qa_cons (q_ix (hu_of hr) (q_var 3) (q_op op_subM nx_sub (q_var 1) (q_int)) (fun _ _ => rfl)) (qa_cons (q_un un_negM nx_neg (q_int)) (qa_cons (q_op op_subM nx_sub (q_op op_subM nx_sub (q_call ((ok__law_draw T).mono (by first | decide | exact Nat.le_add_right _ _ | omega)) hr (takes_of rfl rfl rfl rfl) rfl (qa_cons (q_var 0) (qa_cons (q_int) (qa_nil)))) (q_int)) (q_var 5)) (qa_nil))))) (qa_nil))) (q_var 4)))))))))
abbrev st__law_marks : Stmt := top 19
theorem sc__law_marks : FnScope ["d", "many", "wide", "k"] ["d", "many"] (defScope st__law_marks) := ⟨rfl, rfl, rfl, by decide +kernel, rfl, by decide +kernel, by decide +kernel⟩
theorem ok__law_marks (T : Txt P K mg cl) : FOk P w K mg base cl 3 "_law_marks" m__law_marks := okM T.d__law_marks sc__law_marks fun f cdv A outer s H E hr => (
    qss_cons (qs_set (i := 2) sc__law_marks.nd rfl (by first | exact Or.inl rfl | exact Or.inr rfl) (q_call ((ok__law_pick T).mono (by first | decide | exact Nat.le_add_right _ _ | omega)) hr (takes_of rfl rfl rfl rfl) rfl (qa_cons (q_var 0) (qa_cons (q_lst (qa_cons (q_int) (qa_cons (q_int) (qa_cons (q_int) (qa_nil))))) (qa_nil)))))
    (qss_one (qs_ret (q_op op_addM nx_add (q_lst (qa_cons (q_int) (qa_nil))) (q_lc (own := [("k", 3)]) rfl sc__law_marks.nd (qi_rng1 rfl T.b_range (q_var 1)) (blkOk_by (by kernel_rfl)) (fun _ _ _ _ _ => qgw_nm (i := 3) sc__law_marks.nd rfl (by first | exact Or.inl rfl | exact Or.inr rfl) (by decide)) (fun _ _ _ _ _ => qts_nil) (fun _ _ _ _ _ => q_call ((ok__law_draw T).mono (by first | decide | exact Nat.le_add_right _ _ | omega)) hr takes0 rfl (qa_cons (q_var 0) (qa_cons (q_var 2) (qa_nil)))))))))
abbrev st__law_any_bounds : Stmt := top 20
theorem sc__law_any_bounds : FnScope ["d", "many", "marks", "way", "found", "k", "i", "j", "gap", "row"] ["d", "many"] (defScope st__law_any_bounds) := ⟨rfl, rfl, rfl, by decide +kernel, rfl, by decide +kernel, by decide +kernel⟩
theorem ok__law_any_bounds (T : Txt P K mg cl) : FOk P w K mg base cl 4 "_law_any_bounds" m__law_any_bounds := okM T.d__law_any_bounds sc__law_any_bounds fun f cdv A outer s H E hr => (
    qss_cons (qs_set (i := 2) sc__law_any_bounds.nd rfl (by first | exact Or.inl rfl | exact Or.inr rfl) (q_call ((ok__law_marks T).mono (by first | decide | exact Nat.le_add_right _ _ | omega)) hr (takes_of rfl rfl rfl rfl) rfl (qa_cons (q_var 0) (qa_cons (q_var 1) (qa_nil)))))
    (qss_cons (qs_set (i := 3) sc__law_any_bounds.nd rfl (by first | exact Or.inl rfl | exact Or.inr rfl) (q_call ((ok__law_draw T).mono (by first | decide | exact Nat.le_add_right _ _ | omega)) hr (takes_of rfl rfl rfl rfl) rfl (qa_cons (q_var 0) (qa_cons (q_int) (qa_nil)))))
    (qss_cons (qs_set (i := 4) sc__law_any_bounds.nd rfl (by first | exact Or.inl rfl | exact Or.inr rfl) (q_lstC (qa_nil)))
    (qss_cons (qs_for (passes_of rfl) rfl (qi_rng1 rfl T.b_range (q_call ((ok__law_draw T).mono (by first | decide | exact Nat.le_add_right _ _ | omega)) hr (takes_of rfl rfl rfl rfl) rfl (qa_cons (q_var 0) (qa_cons (q_op op_addM nx_add (q_op op_mulM nx_mul (q_int) (q_var 1)) (q_int)) (qa_nil))))) (qg_nm (i := 5) sc__law_any_bounds.nd rfl (by first | exact Or.inl rfl | exact Or.inr rfl))
    (qss_cons (qs_set (i := 6) sc__law_any_bounds.nd rfl (by first | exact Or.inl rfl | exact Or.inr rfl) (q_call ((ok__law_draw T).mono (by first | decide | exact Nat.le_add_right _ _ | omega)) hr (takes_of rfl rfl rfl rfl) rfl (qa_cons (q_var 0) (qa_cons (q_op op_addM nx_add (q_var 1) (q_int)) (qa_nil)))))
    (qss_cons (qs_set (i := 7) sc__law_any_bounds.nd rfl (by first | exact Or.inl rfl | exact Or.inr rfl) (q_call ((ok__law_draw T).mono (by first | decide | exact Nat.le_add_right _ _ | omega)) hr (takes_of rfl rfl rfl rfl) rfl (qa_cons (q_var 0) (qa_cons (q_op op_addM nx_add (q_var 1) (q_int)) (qa_nil)))))
    (qss_cons (qs_set (i := 8) sc__law_any_bounds.nd rfl (by first | exact Or.inl rfl | exact Or.inr rfl) (q_op op_subM nx_sub (q_call ((ok__law_draw T).mono (by first | decide | exact Nat.le_add_right _ _ | omega)) hr (takes_of rfl rfl rfl rfl) rfl (qa_cons (q_var 0) (qa_cons (q_int) (qa_nil)))) (q_int)))
    (qss_cons (qs_if (qt_cmp op_gtM nx_gt (q_var 3) (q_int) (nomark _))
    (qss_one (qs_set (i := 8) sc__law_any_bounds.nd rfl (by first | exact Or.inl rfl | exact Or.inr rfl) (q_op op_subM nx_sub (q_op op_subM nx_sub (q_ix (hu_of hr) (q_var 2) (q_var 7) (fun _ _ => rfl)) (q_ix (hu_of hr) (q_var 2) (q_var 6) (fun _ _ => rfl))) (q_call ((ok__law_pick T).mono (by first | decide | exact Nat.le_add_right _ _ | omega)) hr (takes_of rfl rfl rfl rfl) rfl (qa_cons (q_var 0) (qa_cons (q_lst (qa_cons (q_int) (qa_cons (q_int) (qa_cons (q_int) (qa_cons (q_int) (qa_cons (q_int) (qa_nil))))))) (qa_nil)))))))
    (qss_nil))
    (qss_one (qs_if (qt_cmp (op_neM hr.units) nx_ne (q_var 6) (q_var 7) (nomark _))
    (qss_one (qs_expr (q_m1 PySem.F.plainAttrs_list PySem.F.slot_list_append PySem.F.type_list_append mt_appendM nx_append (q_var 4) (q_tup (qa_cons (q_op op_subM nx_sub (q_var 6) (q_int)) (qa_cons (q_op op_subM nx_sub (q_var 7) (q_int)) (qa_cons (q_var 8) (qa_nil))))))))
    (qss_one (qs_if (qt_cmp op_gtM nx_gt (q_var 6) (q_int) (nomark _))
    (qss_one (qs_expr (q_m1 PySem.F.plainAttrs_list PySem.F.slot_list_append PySem.F.type_list_append mt_appendM nx_append (q_var 4) (q_tup (qa_cons (q_op op_subM nx_sub (q_var 6) (q_int)) (qa_cons (q_op op_subM nx_sub (q_var 6) (q_int)) (qa_cons (q_callB (call_min2M rfl) nx_min2 rfl T.b_min (by decide +kernel) (qa_cons (q_var 8) (qa_cons (q_int) (qa_nil)))) (qa_nil))))))))
    (qss_nil))))))))))
    (qss_cons (qs_if (qt_w (qw_and (qt_cmp (op_eqM hr.units) nx_eq (q_var 3) (q_int) (nomark _)) (qw_and1 (qt_cmp op_gtM nx_gt (q_callB call_lenM nx_len rfl T.b_len (by decide +kernel) (qa_cons (q_var 4) (qa_nil))) (q_int) (nomark _)))))
    (qss_cons (qs_set (i := 5) sc__law_any_bounds.nd rfl (by first | exact Or.inl rfl | exact Or.inr rfl) (q_call ((ok__law_draw T).mono (by first | decide | exact Nat.le_add_right _ _ | omega)) hr (takes_of rfl rfl rfl rfl) rfl (qa_cons (q_var 0) (qa_cons (q_callB call_lenM nx_len rfl T.b_len (by decide +kernel) (qa_cons (q_var 4) (qa_nil))) (qa_nil)))))
    (qss_cons (qs_set (i := 9) sc__law_any_bounds.nd rfl (by first | exact Or.inl rfl | exact Or.inr rfl) (q_ix (hu_of hr) (q_var 4) (q_var 5) (fun _ _ => rfl)))
    (qss_one (qs_setIx (hu_of hr) (q_tup (qa_cons (q_ix (hu_of hr) (q_var 9) (q_int) (fun _ _ => rfl)) (qa_cons (q_ix (hu_of hr) (q_var 9) (q_int) (fun _ _ => rfl)) (qa_cons (q_op op_addM nx_add (q_ix (hu_of hr) (q_var 9) (q_int) (fun _ _ => rfl)) (q_callTy call_intM nx_int1 rfl T.b_int (by decide +kernel) (qa_cons (q_cmp (op_neM hr.units) nx_ne (q_ix (hu_of hr) (q_var 9) (q_int) (fun _ _ => rfl)) (q_ix (hu_of hr) (q_var 9) (q_int) (fun _ _ => rfl)) (nomark _)) (qa_nil)))) (qa_nil))))) (q_var 4) (q_var 5)))))
    (qss_nil))
    (qss_one (qs_ret (q_var 4))))))))
abbrev st__law_bounds : Stmt := top 22
theorem sc__law_bounds : FnScope ["d", "many", "found", "left", "k"] ["d", "many"] (defScope st__law_bounds) := ⟨rfl, rfl, rfl, by decide +kernel, rfl, by decide +kernel, by decide +kernel⟩
theorem ok__law_bounds (T : Txt P K mg cl) : FOk P w K mg base cl 5 "_law_bounds" m__law_bounds := okM T.d__law_bounds sc__law_bounds fun f cdv A outer s H E hr => (
    qss_cons (qs_setLcC (i := 2) (own := [("k", 4)]) rfl sc__law_bounds.nd rfl rfl (sw_true rfl rfl rfl (by kernel_rfl)) (qi_rng1 rfl T.b_range (q_var 1)) (blkOk_by (by kernel_rfl)) (fun _ _ _ _ _ => qgw_nm (i := 4) sc__law_bounds.nd rfl (by first | exact Or.inl rfl | exact Or.inr rfl) (by decide)) (fun _ _ _ _ _ => qts_nil) (fun _ _ _ _ _ => q_tup (qa_cons (q_un un_negM nx_neg (q_int)) (qa_cons (q_var 4) (qa_cons (q_int) (qa_nil))))))
    (qss_cons (qs_if (qt_w (qw_and (qt_cmp op_gtM nx_gt (q_var 1) (q_int) (nomark _)) (qw_and1 (qt_cmp (op_eqM hr.units) nx_eq (q_call ((ok__law_draw T).mono (by first | decide | exact Nat.le_add_right _ _ | omega)) hr (takes_of rfl rfl rfl rfl) rfl (qa_cons (q_var 0) (qa_cons (q_int) (qa_nil)))) (q_int) (nomark _)))))
    (qss_one (qs_expr (q_m1 PySem.F.plainAttrs_list PySem.F.slot_list_extend PySem.F.type_list_extend mt_extendM nx_extend (q_var 2) (q_call ((ok__law_long_bounds T).mono (by first | decide | exact Nat.le_add_right _ _ | omega)) hr (takes_of rfl rfl rfl rfl) rfl (qa_cons (q_var 0) (qa_cons (q_var 1) (qa_nil)))))))
    (qss_one (qs_expr (q_m1 PySem.F.plainAttrs_list PySem.F.slot_list_extend PySem.F.type_list_extend mt_extendM nx_extend (q_var 2) (q_call ((ok__law_any_bounds T).mono (by first | decide | exact Nat.le_add_right _ _ | omega)) hr (takes_of rfl rfl rfl rfl) rfl (qa_cons (q_var 0) (qa_cons (q_var 1) (qa_nil))))))))
    (qss_cons (qs_if (qt_cmp (op_eqM hr.units) nx_eq (q_call ((ok__law_draw T).mono (by first | decide | exact Nat.le_add_right _ _ | omega)) hr (takes_of rfl rfl rfl rfl) rfl (qa_cons (q_var 0) (qa_cons (q_int) (qa_nil)))) (q_int) (nomark _))
    (qss_cons (qs_set (i := 3) sc__law_bounds.nd rfl (by first | exact Or.inl rfl | exact Or.inr rfl) (q_callTy call_listC nx_listC rfl T.b_list (by decide +kernel) (qa_cons (q_var 2) (qa_nil))))
    (qss_one (qs_setLcC (i := 2) (own := [("k", 4)]) rfl sc__law_bounds.nd rfl rfl (sw_true rfl rfl rfl (by kernel_rfl)) (qi_rng1 rfl T.b_range (q_callB call_lenM nx_len rfl T.b_len (by decide +kernel) (qa_cons (q_var 2) (qa_nil)))) (blkOk_by (by kernel_rfl)) (fun _ _ _ _ _ => qgw_nm (i := 4) sc__law_bounds.nd rfl (by first | exact Or.inl rfl | exact Or.inr rfl) (by decide)) (fun _ _ _ _ _ => qts_nil) (fun _ _ _ _ _ => q_call ((ok__law_pop T).mono (by first | decide | exact Nat.le_add_right _ _ | omega)) hr takes0 rfl (qa_cons (q_var 0) (qa_cons (q_var 3) (qa_nil)))))))
    (qss_nil))
    (qss_one (qs_ret (q_callTy call_tupleM nx_tuple rfl T.b_tuple (by decide +kernel) (qa_cons (q_var 2) (qa_nil))))))))
abbrev st__law_more : Stmt := top 23
theorem sc__law_more : FnScope ["d", "bounds", "k", "row", "gap"] ["d", "bounds"] (defScope st__law_more) := ⟨rfl, rfl, rfl, by decide +kernel, rfl, by decide +kernel, by decide +kernel⟩
theorem ok__law_more (T : Txt P K mg cl) : FOk P w K mg base cl 3 "_law_more" m__law_more := okM T.d__law_more sc__law_more fun f cdv A outer s H E hr => (
    qss_cons (qs_if (qt_cmp (op_eqM hr.units) nx_eq (q_callB call_lenM nx_len rfl T.b_len (by decide +kernel) (qa_cons (q_var 1) (qa_nil))) (q_int) (nomark _))
    (qss_one (qs_ret (q_var 1)))
    (qss_nil))
    (qss_cons (qs_set (i := 2) sc__law_more.nd rfl (by first | exact Or.inl rfl | exact Or.inr rfl) (q_call ((ok__law_draw T).mono (by first | decide | exact Nat.le_add_right _ _ | omega)) hr (takes_of rfl rfl rfl rfl) rfl (qa_cons (q_var 0) (qa_cons (q_op op_addM nx_add (q_callB call_lenM nx_len rfl T.b_len (by decide +kernel) (qa_cons (q_var 1) (qa_nil))) (q_int)) (qa_nil)))))
    (qss_cons (qs_set (i := 3) sc__law_more.nd rfl (by first | exact Or.inl rfl | exact Or.inr rfl) (q_call ((ok__law_pick T).mono (by first | decide | exact Nat.le_add_right _ _ | omega)) hr (takes_of rfl rfl rfl rfl) rfl (qa_cons (q_var 0) (qa_cons (q_var 1) (qa_nil)))))
    (qss_cons (qs_set (i := 4) sc__law_more.nd rfl (by first | exact Or.inl rfl | exact Or.inr rfl) (q_op op_addM nx_add (q_ix (hu_of hr) (q_var 3) (q_int) (fun _ _ => rfl)) (q_call ((ok__law_pick T).mono (by first | decide | exact Nat.le_add_right _ _ | omega)) hr (takes_of rfl rfl rfl rfl) rfl (qa_cons (q_var 0) (qa_cons (q_lst (qa_cons (q_un un_negM nx_neg (q_int)) (qa_cons (q_int) (qa_cons (q_int) (qa_cons (q_int) (qa_cons (q_int) (qa_nil))))))) (qa_nil))))))
    (qss_cons (qs_if (qt_cmp (op_eqM hr.units) nx_eq (q_ix (hu_of hr) (q_var 3) (q_int) (fun _ _ => rfl)) (q_ix (hu_of hr) (q_var 3) (q_int) (fun _ _ => rfl)) (nomark _))
    (qss_one (qs_set (i := 4) sc__law_more.nd rfl (by first | exact Or.inl rfl | exact Or.inr rfl) (q_callB (call_min2M rfl) nx_min2 rfl T.b_min (by decide +kernel) (qa_cons (q_var 4) (qa_cons (q_int) (qa_nil))))))
    (qss_nil))
    (qss_one (qs_ret (q_op op_addM nx_add (q_op op_addM nx_add (q_slice (q_var 1) qo_none (qo_some (q_var 2))) (q_tup (qa_cons (q_tup (qa_cons (q_ix (hu_of hr) (q_var 3) (q_int) (fun _ _ => rfl)) (qa_cons (q_ix (hu_of hr) (q_var 3) (q_int) (fun _ _ => rfl)) (qa_cons (q_var 4) (qa_nil))))) (qa_nil)))) (q_slice (q_var 1) (qo_some (q_var 2)) qo_none)))))))))
abbrev st__law_starts : Stmt := top 12
theorem sc__law_starts : FnScope ["many", "bounds", "rows", "turn", "later", "bound", "k"] ["many", "bounds"] (defScope st__law_starts) := ⟨rfl, rfl, rfl, by decide +kernel, rfl, by decide +kernel, by decide +kernel⟩
theorem ok__law_starts (T : Txt P K mg cl) : FOk P w K mg base cl 1 "_law_starts" m__law_starts := okM T.d__law_starts sc__law_starts fun f cdv A outer s H E hr => (
    qss_cons (qs_setLc (i := 2) (own := [("k", 6)]) rfl sc__law_starts.nd rfl rfl (sw_true rfl rfl rfl (by kernel_rfl)) (qi_rng1 rfl T.b_range (q_op op_addM nx_add (q_var 0) (q_int))) (blkOk_by (by kernel_rfl)) (fun _ _ _ _ _ => qgw_nm (i := 6) sc__law_starts.nd rfl (by first | exact Or.inl rfl | exact Or.inr rfl) (by decide)) (fun _ _ _ _ _ => qts_nil) (fun _ _ _ _ _ => q_int))
    (qss_cons (qs_for (passes_of rfl) rfl (qi_rng1 rfl T.b_range (q_op op_addM nx_add (q_var 0) (q_int))) (qg_nm (i := 3) sc__law_starts.nd rfl (by first | exact Or.inl rfl | exact Or.inr rfl))
    (qss_cons (qs_set (i := 4) sc__law_starts.nd rfl (by first | exact Or.inl rfl | exact Or.inr rfl) (q_callTy call_listC nx_listC rfl T.b_list (by decide +kernel) (qa_cons (q_var 2) (qa_nil))))
    (qss_cons (qs_for (passes_of rfl) rfl (qi_seq (q_var 1)) (qg_nm (i := 5) sc__law_starts.nd rfl (by first | exact Or.inl rfl | exact Or.inr rfl))
    (qss_one (qs_setIx (hu_of hr) (q_callB (call_max2M rfl) nx_max2 rfl T.b_max (by decide +kernel) (qa_cons (q_ix (hu_of hr) (q_var 4) (q_op op_addM nx_add (q_ix (hu_of hr) (q_var 5) (q_int) (fun _ _ => rfl)) (q_int)) (fun _ _ => rfl)) (qa_cons (q_op op_addM nx_add (q_ix (hu_of hr) (q_var 2) (q_op op_addM nx_add (q_ix (hu_of hr) (q_var 5) (q_int) (fun _ _ => rfl)) (q_int)) (fun _ _ => rfl)) (q_ix (hu_of hr) (q_var 5) (q_int) (fun _ _ => rfl))) (qa_nil)))) (q_var 4) (q_op op_addM nx_add (q_ix (hu_of hr) (q_var 5) (q_int) (fun _ _ => rfl)) (q_int)))))
    (qss_cons (qs_if (qt_cmp (op_eqM hr.units) nx_eq (q_var 4) (q_var 2) (nomark _))
    (qss_one (qs_ret (q_callTy call_tupleM nx_tuple rfl T.b_tuple (by decide +kernel) (qa_cons (q_slice (q_var 2) (qo_some (q_int)) qo_none) (qa_nil)))))
    (qss_nil))
    (qss_one (qs_set (i := 2) sc__law_starts.nd rfl (by first | exact Or.inl rfl | exact Or.inr rfl) (q_var 4)))))))
    (qss_one (qs_ret (q_non)))))
abbrev st__law_gaps : Stmt := top 13
theorem sc__law_gaps : FnScope ["bounds", "found", "bound", "pair"] ["bounds"] (defScope st__law_gaps) := ⟨rfl, rfl, rfl, by decide +kernel, rfl, by decide +kernel, by decide +kernel⟩
theorem ok__law_gaps (T : Txt P K mg cl) : FOk P w K mg base cl 1 "_law_gaps" m__law_gaps := okM T.d__law_gaps sc__law_gaps fun f cdv A outer s H E hr => (
    qss_cons (qs_set (i := 1) sc__law_gaps.nd rfl (by first | exact Or.inl rfl | exact Or.inr rfl) (q_dicT))
    (qss_cons (qs_for (passes_of rfl) rfl (qi_seq (q_var 0)) (qg_nm (i := 2) sc__law_gaps.nd rfl (by first | exact Or.inl rfl | exact Or.inr rfl))
    (qss_cons (qs_set (i := 3) sc__law_gaps.nd rfl (by first | exact Or.inl rfl | exact Or.inr rfl) (q_tup (qa_cons (q_ix (hu_of hr) (q_var 2) (q_int) (fun _ _ => rfl)) (qa_cons (q_ix (hu_of hr) (q_var 2) (q_int) (fun _ _ => rfl)) (qa_nil)))))
    (qss_one (qs_if (qt_w (qw_or (qt_cmp (op_notInM (hu_of hr)) nx_notIn (q_var 3) (q_var 1) (by with_unfolding_all rfl)) (qw_or1 (qt_cmp op_gtM nx_gt (q_ix (hu_of hr) (q_var 2) (q_int) (fun _ _ => rfl)) (q_ix (hu_of hr) (q_var 1) (q_var 3) (fun _ _ => rfl)) (nomark _)))))
    (qss_one (qs_setIx (hu_of hr) (q_ix (hu_of hr) (q_var 2) (q_int) (fun _ _ => rfl)) (q_var 1) (q_var 3)))
    (qss_nil)))))
    (qss_one (qs_ret (q_var 1)))))
abbrev st__law_is_int : Stmt := top 10
theorem sc__law_is_int : FnScope ["thing"] ["thing"] (defScope st__law_is_int) := ⟨rfl, rfl, rfl, by decide +kernel, rfl, by decide +kernel, by decide +kernel⟩
theorem ok__law_is_int (T : Txt P K mg cl) : FOk P w K mg base cl 1 "_law_is_int" m__law_is_int := okM T.d__law_is_int sc__law_is_int fun f cdv A outer s H E hr => (
    qss_one (qs_ret (q_and (q_isTy (t := "int") (by decide) rfl T.b_isinstance rfl T.b_int (by decide +kernel) (q_var 0)) (q_one (q_not (q_isTy (t := "bool") (by decide) rfl T.b_isinstance rfl T.b_bool (by decide +kernel) (q_var 0)))))))
abbrev st__law_same : Stmt := top 11
theorem sc__law_same : FnScope ["one", "other", "k"] ["one", "other"] (defScope st__law_same) := ⟨rfl, rfl, rfl, by decide +kernel, rfl, by decide +kernel, by decide +kernel⟩
theorem ok__law_same (T : Txt P K mg cl) : ∀ j : Nat, FOk P w K mg base cl (1 + j) "_law_same" (m__law_same j)
  | 0 => fok_no T.d__law_same
  | j + 1 => okM T.d__law_same sc__law_same fun f cdv A outer s H E hr => (
    qss_cons (qs_if (qt_val (q_isTy (t := "tuple") (by decide) rfl T.b_isinstance rfl T.b_tuple (by decide +kernel) (q_var 0)))
    (qss_cons (qs_if (qt_w (qw_or (qt_not (qt_val (q_isTy (t := "tuple") (by decide) rfl T.b_isinstance rfl T.b_tuple (by decide +kernel) (q_var 1)))) (qw_or1 (qt_cmp (op_neM hr.units) nx_ne (q_callB call_lenM nx_len rfl T.b_len (by decide +kernel) (qa_cons (q_var 0) (qa_nil))) (q_callB call_lenM nx_len rfl T.b_len (by decide +kernel) (qa_cons (q_var 1) (qa_nil))) (nomark _)))))
    (qss_one (qs_ret (q_bl)))
    (qss_nil))
    (qss_one (qs_ret (q_cmp (op_eqM hr.units) nx_eq (q_callB call_lenM nx_len rfl T.b_len (by decide +kernel) (qa_cons (q_lc (own := [("k", 2)]) rfl sc__law_same.nd (qi_rng1 rfl T.b_range (q_callB call_lenM nx_len rfl T.b_len (by decide +kernel) (qa_cons (q_var 0) (qa_nil)))) (blkOk_by (by kernel_rfl)) (fun _ _ _ _ _ => qgw_nm (i := 2) sc__law_same.nd rfl (by first | exact Or.inl rfl | exact Or.inr rfl) (by decide)) (fun _ _ _ _ _ => qts_one (qt_not (qt_val (q_call (ok__law_same T j) hr takes0 rfl (qa_cons (q_ix (hu_of hr) (q_var 0) (q_var 2) (fun _ _ => rfl)) (qa_cons (q_ix (hu_of hr) (q_var 1) (q_var 2) (fun _ _ => rfl)) (qa_nil))))))) (fun _ _ _ _ _ => q_var 2)) (qa_nil))) (q_int) (nomark _)))))
    (qss_nil))
    (qss_cons (qs_if (qt_w (qw_or (qt_val (q_isTy (t := "bool") (by decide) rfl T.b_isinstance rfl T.b_bool (by decide +kernel) (q_var 0))) (qw_or (qt_isN (q_var 0)) (qw_or1 (qt_val (q_isTy (t := "str") (by decide) rfl T.b_isinstance rfl T.b_str (by decide +kernel) (q_var 0)))))))
    (qss_one (qs_ret (q_and (q_cmp (op_eqM hr.units) nx_eq (q_isTy (t := "bool") (by decide) rfl T.b_isinstance rfl T.b_bool (by decide +kernel) (q_var 0)) (q_isTy (t := "bool") (by decide) rfl T.b_isinstance rfl T.b_bool (by decide +kernel) (q_var 1)) (nomark _)) (q_one (q_cmp (op_eqM hr.units) nx_eq (q_var 0) (q_var 1) (nomark _))))))
    (qss_nil))
    (qss_one (qs_ret (q_and (q_call ((ok__law_is_int T).mono (by first | decide | exact Nat.le_add_right _ _ | omega)) hr (takes_of rfl rfl rfl rfl) rfl (qa_cons (q_var 0) (qa_nil))) (q_and (q_call ((ok__law_is_int T).mono (by first | decide | exact Nat.le_add_right _ _ | omega)) hr (takes_of rfl rfl rfl rfl) rfl (qa_cons (q_var 1) (qa_nil))) (q_one (q_cmp (op_eqM hr.units) nx_eq (q_var 0) (q_var 1) (nomark _)))))))))
abbrev st__law_along : Stmt := top 15
theorem sc__law_along : FnScope ["gaps", "row", "total", "k", "pair"] ["gaps", "row"] (defScope st__law_along) := ⟨rfl, rfl, rfl, by decide +kernel, rfl, by decide +kernel, by decide +kernel⟩
theorem ok__law_along (T : Txt P K mg cl) : FOk P w K mg base cl 1 "_law_along" m__law_along := okM T.d__law_along sc__law_along fun f cdv A outer s H E hr => (
    qss_cons (qs_set (i := 2) sc__law_along.nd rfl (by first | exact Or.inl rfl | exact Or.inr rfl) (q_int))
    (qss_cons (qs_for (passes_of rfl) rfl (qi_rng2 rfl T.b_range (q_int) (q_callB call_lenM nx_len rfl T.b_len (by decide +kernel) (qa_cons (q_var 1) (qa_nil)))) (qg_nm (i := 3) sc__law_along.nd rfl (by first | exact Or.inl rfl | exact Or.inr rfl))
    (qss_cons (qs_set (i := 4) sc__law_along.nd rfl (by first | exact Or.inl rfl | exact Or.inr rfl) (q_tup (qa_cons (q_ix (hu_of hr) (q_var 1) (q_op op_subM nx_sub (q_var 3) (q_int)) (fun _ _ => rfl)) (qa_cons (q_ix (hu_of hr) (q_var 1) (q_var 3) (fun _ _ => rfl)) (qa_nil)))))
    (qss_cons (qs_if (qt_cmp (op_notInM (hu_of hr)) nx_notIn (q_var 4) (q_var 0) (by with_unfolding_all rfl))
    (qss_one (qs_ret (q_non)))
    (qss_nil))
    (qss_one (qs_aug (i := 2) sc__law_along.nd rfl (by first | exact Or.inl rfl | exact Or.inr rfl) (q_ix (hu_of hr) (q_var 0) (q_var 4) (fun _ _ => rfl)) iop_addM nx_iadd)))))
    (qss_one (qs_ret (q_var 2)))))
abbrev st__law_is_steps : Stmt := top 14
theorem sc__law_is_steps : FnScope ["many", "row", "step"] ["many", "row"] (defScope st__law_is_steps) := ⟨rfl, rfl, rfl, by decide +kernel, rfl, by decide +kernel, by decide +kernel⟩
theorem ok__law_is_steps (T : Txt P K mg cl) : FOk P w K mg base cl 2 "_law_is_steps" m__law_is_steps := okM T.d__law_is_steps sc__law_is_steps fun f cdv A outer s H E hr => (
    qss_cons (qs_if (qt_w (qw_or (qt_not (qt_val (q_isTy (t := "tuple") (by decide) rfl T.b_isinstance rfl T.b_tuple (by decide +kernel) (q_var 1)))) (qw_or1 (qt_cmp (op_eqM hr.units) nx_eq (q_callB call_lenM nx_len rfl T.b_len (by decide +kernel) (qa_cons (q_var 1) (qa_nil))) (q_int) (nomark _)))))
    (qss_one (qs_ret (q_bl)))
    (qss_nil))
    (qss_one (qs_ret (q_cmp (op_eqM hr.units) nx_eq (q_callB call_lenM nx_len rfl T.b_len (by decide +kernel) (qa_cons (q_lc (own := [("step", 2)]) rfl sc__law_is_steps.nd (qi_seq (q_var 1)) (blkOk_by (by kernel_rfl)) (fun _ _ _ _ _ => qgw_nm (i := 2) sc__law_is_steps.nd rfl (by first | exact Or.inl rfl | exact Or.inr rfl) (by decide)) (fun _ _ _ _ _ => qts_one (qt_w (qw_or (qt_not (qt_val (q_call ((ok__law_is_int T).mono (by first | decide | exact Nat.le_add_right _ _ | omega)) hr takes0 rfl (qa_cons (q_var 2) (qa_nil))))) (qw_or1 (qt_not (qt_chain op_leM nx_le op_ltM nx_lt (q_un un_negM nx_neg (q_int)) (q_var 2) (q_var 0))))))) (fun _ _ _ _ _ => q_int)) (qa_nil))) (q_int) (nomark _)))))
abbrev st__law_is_ring : Stmt := top 16
theorem sc__law_is_ring : FnScope ["many", "gaps", "ring", "k", "total"] ["many", "gaps", "ring"] (defScope st__law_is_ring) := ⟨rfl, rfl, rfl, by decide +kernel, rfl, by decide +kernel, by decide +kernel⟩
theorem ok__law_is_ring (T : Txt P K mg cl) : FOk P w K mg base cl 3 "_law_is_ring" m__law_is_ring := okM T.d__law_is_ring sc__law_is_ring fun f cdv A outer s H E hr => (
    qss_cons (qs_if (qt_not (qt_val (q_call ((ok__law_is_steps T).mono (by first | decide | exact Nat.le_add_right _ _ | omega)) hr (takes_of rfl rfl rfl rfl) rfl (qa_cons (q_var 0) (qa_cons (q_var 2) (qa_nil))))))
    (qss_one (qs_ret (q_bl)))
    (qss_nil))
    (qss_cons (qs_for (passes_of rfl) rfl (qi_rng1 rfl T.b_range (q_callB call_lenM nx_len rfl T.b_len (by decide +kernel) (qa_cons (q_var 2) (qa_nil)))) (qg_nm (i := 3) sc__law_is_ring.nd rfl (by first | exact Or.inl rfl | exact Or.inr rfl))
    (qss_one (qs_if (qt_cmp (op_inM (hu_of hr)) nx_in (q_ix (hu_of hr) (q_var 2) (q_var 3) (fun _ _ => rfl)) (q_slice (q_var 2) qo_none (qo_some (q_var 3))) (by with_unfolding_all rfl))
    (qss_one (qs_ret (q_bl)))
    (qss_nil))))
    (qss_cons (qs_set (i := 4) sc__law_is_ring.nd rfl (by first | exact Or.inl rfl | exact Or.inr rfl) (q_call ((ok__law_along T).mono (by first | decide | exact Nat.le_add_right _ _ | omega)) hr (takes_of rfl rfl rfl rfl) rfl (qa_cons (q_var 1) (qa_cons (q_op op_addM nx_add (q_var 2) (q_slice (q_var 2) qo_none (qo_some (q_int)))) (qa_nil)))))
    (qss_one (qs_ret (q_and (q_notN (q_var 4)) (q_one (q_cmp op_gtM nx_gt (q_var 4) (q_int) (nomark _)))))))))
abbrev st__law_is_chain : Stmt := top 17
theorem sc__law_is_chain : FnScope ["many", "gaps", "chain", "step", "time"] ["many", "gaps", "chain", "step", "time"] (defScope st__law_is_chain) := ⟨rfl, rfl, rfl, by decide +kernel, rfl, by decide +kernel, by decide +kernel⟩
theorem ok__law_is_chain (T : Txt P K mg cl) : FOk P w K mg base cl 11 "_law_is_chain" m__law_is_chain := okM T.d__law_is_chain sc__law_is_chain fun f cdv A outer s H E hr => (
    qss_cons (qs_if (qt_w (qw_or (qt_not (qt_val (q_call ((ok__law_is_steps T).mono (by first | decide | exact Nat.le_add_right _ _ | omega)) hr (takes_of rfl rfl rfl rfl) rfl (qa_cons (q_var 0) (qa_cons (q_var 2) (qa_nil)))))) (qw_or (qt_cmp (op_neM hr.units) nx_ne (q_ix (hu_of hr) (q_var 2) (q_int) (fun _ _ => rfl)) (q_un un_negM nx_neg (q_int)) (nomark _)) (qw_or1 (qt_cmp (op_neM hr.units) nx_ne (q_ix (hu_of hr) (q_var 2) (q_un un_negM nx_neg (q_int)) (fun _ _ => rfl)) (q_var 3) (nomark _))))))
    (qss_one (qs_ret (q_bl)))
    (qss_nil))
    (qss_one (qs_ret (q_call ((ok__law_same T 8).mono (by first | decide | exact Nat.le_add_right _ _ | omega)) hr (takes_of rfl rfl rfl rfl) rfl (qa_cons (q_var 4) (qa_cons (q_call ((ok__law_along T).mono (by first | decide | exact Nat.le_add_right _ _ | omega)) hr (takes_of rfl rfl rfl rfl) rfl (qa_cons (q_var 1) (qa_cons (q_var 2) (qa_nil)))) (qa_nil)))))))
abbrev st__law_is_told : Stmt := top 18
theorem sc__law_is_told : FnScope ["many", "bounds", "told", "due", "gaps", "k"] ["many", "bounds", "told"] (defScope st__law_is_told) := ⟨rfl, rfl, rfl, by decide +kernel, rfl, by decide +kernel, by decide +kernel⟩
theorem ok__law_is_told (T : Txt P K mg cl) : FOk P w K mg base cl 12 "_law_is_told" m__law_is_told := okM T.d__law_is_told sc__law_is_told fun f cdv A outer s H E hr => (
    qss_cons (qs_set (i := 3) sc__law_is_told.nd rfl (by first | exact Or.inl rfl | exact Or.inr rfl) (q_call ((ok__law_starts T).mono (by first | decide | exact Nat.le_add_right _ _ | omega)) hr (takes_of rfl rfl rfl rfl) rfl (qa_cons (q_var 0) (qa_cons (q_var 1) (qa_nil)))))
    (qss_cons (qs_set (i := 4) sc__law_is_told.nd rfl (by first | exact Or.inl rfl | exact Or.inr rfl) (q_call ((ok__law_gaps T).mono (by first | decide | exact Nat.le_add_right _ _ | omega)) hr (takes_of rfl rfl rfl rfl) rfl (qa_cons (q_var 1) (qa_nil))))
    (qss_cons (qs_if (qt_not (qt_val (q_isTy (t := "tuple") (by decide) rfl T.b_isinstance rfl T.b_tuple (by decide +kernel) (q_var 2))))
    (qss_one (qs_ret (q_bl)))
    (qss_nil))
    (qss_cons (qs_if (qt_isN (q_var 3))
    (qss_one (qs_ret (q_and (q_cmp (op_eqM hr.units) nx_eq (q_callB call_lenM nx_len rfl T.b_len (by decide +kernel) (qa_cons (q_var 2) (qa_nil))) (q_int) (nomark _)) (q_and (q_call ((ok__law_same T 8).mono (by first | decide | exact Nat.le_add_right _ _ | omega)) hr (takes_of rfl rfl rfl rfl) rfl (qa_cons (q_str [114, 105, 110, 103]) (qa_cons (q_ix (hu_of hr) (q_var 2) (q_int) (fun _ _ => rfl)) (qa_nil)))) (q_one (q_call ((ok__law_is_ring T).mono (by first | decide | exact Nat.le_add_right _ _ | omega)) hr (takes_of rfl rfl rfl rfl) rfl (qa_cons (q_var 0) (qa_cons (q_var 4) (qa_cons (q_ix (hu_of hr) (q_var 2) (q_int) (fun _ _ => rfl)) (qa_nil))))))))))
    (qss_nil))
    (qss_cons (qs_if (qt_w (qw_or (qt_cmp (op_neM hr.units) nx_ne (q_callB call_lenM nx_len rfl T.b_len (by decide +kernel) (qa_cons (q_var 2) (qa_nil))) (q_int) (nomark _)) (qw_or (qt_not (qt_val (q_call ((ok__law_same T 8).mono (by first | decide | exact Nat.le_add_right _ _ | omega)) hr (takes_of rfl rfl rfl rfl) rfl (qa_cons (q_str [115, 116, 97, 114, 116, 115]) (qa_cons (q_ix (hu_of hr) (q_var 2) (q_int) (fun _ _ => rfl)) (qa_nil)))))) (qw_or1 (qt_not (qt_val (q_call ((ok__law_same T 8).mono (by first | decide | exact Nat.le_add_right _ _ | omega)) hr (takes_of rfl rfl rfl rfl) rfl (qa_cons (q_var 3) (qa_cons (q_ix (hu_of hr) (q_var 2) (q_int) (fun _ _ => rfl)) (qa_nil))))))))))
    (qss_one (qs_ret (q_bl)))
    (qss_nil))
    (qss_cons (qs_if (qt_w (qw_or (qt_not (qt_val (q_isTy (t := "tuple") (by decide) rfl T.b_isinstance rfl T.b_tuple (by decide +kernel) (q_ix (hu_of hr) (q_var 2) (q_int) (fun _ _ => rfl))))) (qw_or1 (qt_cmp (op_neM hr.units) nx_ne (q_callB call_lenM nx_len rfl T.b_len (by decide +kernel) (qa_cons (q_ix (hu_of hr) (q_var 2) (q_int) (fun _ _ => rfl)) (qa_nil))) (q_var 0) (nomark _)))))
    (qss_one (qs_ret (q_bl)))
    (qss_nil))
    (qss_one (qs_ret (q_cmp (op_eqM hr.units) nx_eq (q_callB call_lenM nx_len rfl T.b_len (by decide +kernel) (qa_cons (q_lc (own := [("k", 5)]) rfl sc__law_is_told.nd (qi_rng1 rfl T.b_range (q_var 0)) (blkOk_by (by kernel_rfl)) (fun _ _ _ _ _ => qgw_nm (i := 5) sc__law_is_told.nd rfl (by first | exact Or.inl rfl | exact Or.inr rfl) (by decide)) (fun _ _ _ _ _ => qts_one (qt_not (qt_val (q_call ((ok__law_is_chain T).mono (by first | decide | exact Nat.le_add_right _ _ | omega)) hr takes0 rfl (qa_cons (q_var 0) (qa_cons (q_var 4) (qa_cons (q_ix (hu_of hr) (q_ix (hu_of hr) (q_var 2) (q_int) (fun _ _ => rfl)) (q_var 5) (fun _ _ => rfl)) (qa_cons (q_var 5) (qa_cons (q_ix (hu_of hr) (q_var 3) (q_var 5) (fun _ _ => rfl)) (qa_nil)))))))))) (fun _ _ _ _ _ => q_int)) (qa_nil))) (q_int) (nomark _))))))))))
abbrev st_pass_over : Stmt := top 1
theorem sc_pass_over : FnScope ["bounds", "starts", "parents", "risen", "first", "second", "gap", "time"] ["bounds", "starts", "parents"] (defScope st_pass_over) := ⟨rfl, rfl, rfl, by decide +kernel, rfl, by decide +kernel, by decide +kernel⟩
theorem ok_pass_over (T : Txt P K mg cl) : FOk P w K mg base cl 1 "pass_over" m_pass_over := okM T.d_pass_over sc_pass_over fun f cdv A outer s H E hr => (
    qss_cons (qs_set (i := 3) sc_pass_over.nd rfl (by first | exact Or.inl rfl | exact Or.inr rfl) (q_non))
    (qss_cons (qs_for (passes_of rfl) rfl (qi_seq (q_var 0)) (qg_tp rfl (qgs_cons (qg_nm (i := 4) sc_pass_over.nd rfl (by first | exact Or.inl rfl | exact Or.inr rfl)) (qgs_cons (qg_nm (i := 5) sc_pass_over.nd rfl (by first | exact Or.inl rfl | exact Or.inr rfl)) (qgs_cons (qg_nm (i := 6) sc_pass_over.nd rfl (by first | exact Or.inl rfl | exact Or.inr rfl)) (qgs_nil)))))
    (qss_one (qs_if (qt_notN (q_ix (hu_of hr) (q_var 1) (q_var 4) (fun _ _ => rfl)))
    (qss_cons (qs_set (i := 7) sc_pass_over.nd rfl (by first | exact Or.inl rfl | exact Or.inr rfl) (q_op op_addM nx_add (q_ix (hu_of hr) (q_var 1) (q_var 4) (fun _ _ => rfl)) (q_var 6)))
    (qss_one (qs_if (qt_w (qw_or (qt_isN (q_ix (hu_of hr) (q_var 1) (q_var 5) (fun _ _ => rfl))) (qw_or1 (qt_cmp op_gtM nx_gt (q_var 7) (q_ix (hu_of hr) (q_var 1) (q_var 5) (fun _ _ => rfl)) (nomark _)))))
    (qss_cons (qs_setIx (hu_of hr) (q_var 7) (q_var 1) (q_var 5))
    (qss_cons (qs_setIx (hu_of hr) (q_var 4) (q_var 2) (q_var 5))
    (qss_one (qs_set (i := 3) sc_pass_over.nd rfl (by first | exact Or.inl rfl | exact Or.inr rfl) (q_var 5)))))
    (qss_nil))))
    (qss_nil))))
    (qss_one (qs_ret (q_var 3)))))
abbrev st_ring_from : Stmt := top 2
theorem sc_ring_from : FnScope ["parents", "step", "many", "turn", "ring", "other"] ["parents", "step", "many"] (defScope st_ring_from) := ⟨rfl, rfl, rfl, by decide +kernel, rfl, by decide +kernel, by decide +kernel⟩
theorem ok_ring_from (T : Txt P K mg cl) : FOk P w K mg base cl 1 "ring_from" m_ring_from := okM T.d_ring_from sc_ring_from fun f cdv A outer s H E hr => (
    qss_cons (qs_for (passes_of rfl) rfl (qi_rng1 rfl T.b_range (q_op op_addM nx_add (q_var 2) (q_int))) (qg_nm (i := 3) sc_ring_from.nd rfl (by first | exact Or.inl rfl | exact Or.inr rfl))
    (qss_one (qs_set (i := 1) sc_ring_from.nd rfl (by first | exact Or.inl rfl | exact Or.inr rfl) (q_ix (hu_of hr) (q_var 0) (q_var 1) (fun _ _ => rfl)))))
    (qss_cons (qs_set (i := 4) sc_ring_from.nd rfl (by first | exact Or.inl rfl | exact Or.inr rfl) (q_lstC (qa_cons (q_var 1) (qa_nil))))
    (qss_cons (qs_set (i := 5) sc_ring_from.nd rfl (by first | exact Or.inl rfl | exact Or.inr rfl) (q_ix (hu_of hr) (q_var 0) (q_var 1) (fun _ _ => rfl)))
    (qss_cons (qs_while 1000000 (passes_of rfl) (qt_w (qw_and (qt_cmp (op_neM hr.units) nx_ne (q_var 5) (q_var 1) (nomark _)) (qw_and1 (qt_cmp op_leM nx_le (q_callB call_lenM nx_len rfl T.b_len (by decide +kernel) (qa_cons (q_var 4) (qa_nil))) (q_op op_addM nx_add (q_var 2) (q_int)) (nomark _)))))
    (qss_cons (qs_expr (q_m1 PySem.F.plainAttrs_list PySem.F.slot_list_append PySem.F.type_list_append mt_appendM nx_append (q_var 4) (q_var 5)))
    (qss_one (qs_set (i := 5) sc_ring_from.nd rfl (by first | exact Or.inl rfl | exact Or.inr rfl) (q_ix (hu_of hr) (q_var 0) (q_var 5) (fun _ _ => rfl))))))
    (qss_one (qs_ret (q_callTy call_tupleM nx_tuple rfl T.b_tuple (by decide +kernel) (qa_cons (q_rev (q_var 4)) (qa_nil)))))))))
abbrev st_chain_to : Stmt := top 3
theorem sc_chain_to : FnScope ["parents", "step", "many", "chain"] ["parents", "step", "many"] (defScope st_chain_to) := ⟨rfl, rfl, rfl, by decide +kernel, rfl, by decide +kernel, by decide +kernel⟩
theorem ok_chain_to (T : Txt P K mg cl) : FOk P w K mg base cl 1 "chain_to" m_chain_to := okM T.d_chain_to sc_chain_to fun f cdv A outer s H E hr => (
    qss_cons (qs_set (i := 3) sc_chain_to.nd rfl (by first | exact Or.inl rfl | exact Or.inr rfl) (q_lstC (qa_cons (q_var 1) (qa_nil))))
    (qss_cons (qs_while 1000000 (passes_of rfl) (qt_w (qw_and (qt_cmp (op_neM hr.units) nx_ne (q_ix (hu_of hr) (q_var 3) (q_un un_negM nx_neg (q_int)) (fun _ _ => rfl)) (q_un un_negM nx_neg (q_int)) (nomark _)) (qw_and1 (qt_cmp op_leM nx_le (q_callB call_lenM nx_len rfl T.b_len (by decide +kernel) (qa_cons (q_var 3) (qa_nil))) (q_op op_addM nx_add (q_var 2) (q_int)) (nomark _)))))
    (qss_one (qs_expr (q_m1 PySem.F.plainAttrs_list PySem.F.slot_list_append PySem.F.type_list_append mt_appendM nx_append (q_var 3) (q_ix (hu_of hr) (q_var 0) (q_ix (hu_of hr) (q_var 3) (q_un un_negM nx_neg (q_int)) (fun _ _ => rfl)) (fun _ _ => rfl))))))
    (qss_one (qs_ret (q_callTy call_tupleM nx_tuple rfl T.b_tuple (by decide +kernel) (qa_cons (q_rev (q_var 3)) (qa_nil)))))))
abbrev st_starts_of : Stmt := top 4
theorem sc_starts_of : FnScope ["many", "bounds", "starts", "parents", "step", "risen", "turn", "times_told"] ["many", "bounds"] (defScope st_starts_of) := ⟨rfl, rfl, rfl, by decide +kernel, rfl, by decide +kernel, by decide +kernel⟩
theorem ok_starts_of (T : Txt P K mg cl) : FOk P w K mg base cl 2 "starts_of" m_starts_of := okM T.d_starts_of sc_starts_of fun f cdv A outer s H E hr => (
    qss_cons (qs_set (i := 2) sc_starts_of.nd rfl (by first | exact Or.inl rfl | exact Or.inr rfl) (q_dsp (qp_cons (q_un un_negM nx_neg (q_int)) (q_int) (qp_nil))))
    (qss_cons (qs_set (i := 3) sc_starts_of.nd rfl (by first | exact Or.inl rfl | exact Or.inr rfl) (q_dic))
    (qss_cons (qs_for (passes_of rfl) rfl (qi_rng1 rfl T.b_range (q_var 0)) (qg_nm (i := 4) sc_starts_of.nd rfl (by first | exact Or.inl rfl | exact Or.inr rfl))
    (qss_one (qs_setIx (hu_of hr) (q_non) (q_var 2) (q_var 4))))
    (qss_cons (qs_set (i := 5) sc_starts_of.nd rfl (by first | exact Or.inl rfl | exact Or.inr rfl) (q_non))
    (qss_cons (qs_for (passes_of rfl) rfl (qi_rng1 rfl T.b_range (q_op op_addM nx_add (q_var 0) (q_int))) (qg_nm (i := 6) sc_starts_of.nd rfl (by first | exact Or.inl rfl | exact Or.inr rfl))
    (qss_cons (qs_set (i := 5) sc_starts_of.nd rfl (by first | exact Or.inl rfl | exact Or.inr rfl) (q_call ((ok_pass_over T).mono (by first | decide | exact Nat.le_add_right _ _ | omega)) hr (takes_of rfl rfl rfl rfl) rfl (qa_cons (q_var 1) (qa_cons (q_var 2) (qa_cons (q_var 3) (qa_nil))))))
    (qss_one (qs_if (qt_isN (q_var 5))
    (qss_cons (qs_set (i := 7) sc_starts_of.nd rfl (by first | exact Or.inl rfl | exact Or.inr rfl) (q_callTy call_tupleM nx_tuple rfl T.b_tuple (by decide +kernel) (qa_cons (q_lc (own := [("step", 4)]) rfl sc_starts_of.nd (qi_rng1 rfl T.b_range (q_var 0)) (blkOk_by (by kernel_rfl)) (fun _ _ _ _ _ => qgw_nm (i := 4) sc_starts_of.nd rfl (by first | exact Or.inl rfl | exact Or.inr rfl) (by decide)) (fun _ _ _ _ _ => qts_nil) (fun _ _ _ _ _ => q_ix (hu_of hr) (q_var 2) (q_var 4) (fun _ _ => rfl))) (qa_nil))))
    (qss_one (qs_ret (q_tup (qa_cons (q_str [115, 116, 97, 114, 116, 115]) (qa_cons (q_var 7) (qa_cons (q_callTy call_tupleM nx_tuple rfl T.b_tuple (by decide +kernel) (qa_cons (q_lc (own := [("step", 4)]) rfl sc_starts_of.nd (qi_rng1 rfl T.b_range (q_var 0)) (blkOk_by (by kernel_rfl)) (fun _ _ _ _ _ => qgw_nm (i := 4) sc_starts_of.nd rfl (by first | exact Or.inl rfl | exact Or.inr rfl) (by decide)) (fun _ _ _ _ _ => qts_nil) (fun _ _ _ _ _ => q_call ((ok_chain_to T).mono (by first | decide | exact Nat.le_add_right _ _ | omega)) hr takes0 rfl (qa_cons (q_var 3) (qa_cons (q_var 4) (qa_cons (q_var 0) (qa_nil)))))) (qa_nil))) (qa_nil))))))))
    (qss_nil)))))
    (qss_one (qs_ret (q_tup (qa_cons (q_str [114, 105, 110, 103]) (qa_cons (q_call ((ok_ring_from T).mono (by first | decide | exact Nat.le_add_right _ _ | omega)) hr (takes_of rfl rfl rfl rfl) rfl (qa_cons (q_var 3) (qa_cons (q_var 5) (qa_cons (q_var 0) (qa_nil))))) (qa_nil)))))))))))
abbrev st_law : Stmt := top 24
theorem sc_law : FnScope ["script", "d", "many", "first", "second"] ["script"] (defScope st_law) := ⟨rfl, rfl, rfl, by decide +kernel, rfl, by decide +kernel, by decide +kernel⟩
theorem ok_law (T : Txt P K mg cl) {f0 : Addr} {fd : FuncData} (F : Fun K "law" "law" st_law f0 fd) : FnOk P w K mg base (L2.CX P w) 13 f0 fd ["script"] (spM K cl m_law) := okM0 F sc_law fun f cdv A outer s H E hr => (
    qss_cons (qs_set (i := 1) sc_law.nd rfl (by first | exact Or.inl rfl | exact Or.inr rfl) (q_call ((ok__law_begin T).mono (by first | decide | exact Nat.le_add_right _ _ | omega)) hr (takes_of rfl rfl rfl rfl) rfl (qa_cons (q_var 0) (qa_nil))))
    (qss_cons (qs_set (i := 2) sc_law.nd rfl (by first | exact Or.inl rfl | exact Or.inr rfl) (q_call ((ok__law_pick T).mono (by first | decide | exact Nat.le_add_right _ _ | omega)) hr (takes_of rfl rfl rfl rfl) rfl (qa_cons (q_var 1) (qa_cons (q_lst (qa_cons (q_int) (qa_cons (q_int) (qa_cons (q_int) (qa_cons (q_int) (qa_cons (q_int) (qa_cons (q_int) (qa_cons (q_int) (qa_cons (q_int) (qa_cons (q_int) (qa_nil))))))))))) (qa_nil)))))
    (qss_cons (qs_set (i := 3) sc_law.nd rfl (by first | exact Or.inl rfl | exact Or.inr rfl) (q_call ((ok__law_bounds T).mono (by first | decide | exact Nat.le_add_right _ _ | omega)) hr (takes_of rfl rfl rfl rfl) rfl (qa_cons (q_var 1) (qa_cons (q_var 2) (qa_nil)))))
    (qss_cons (qs_if (qt_not (qt_val (q_call ((ok__law_is_told T).mono (by first | decide | exact Nat.le_add_right _ _ | omega)) hr (takes_of rfl rfl rfl rfl) rfl (qa_cons (q_var 2) (qa_cons (q_var 3) (qa_cons (q_call ((ok_starts_of T).mono (by first | decide | exact Nat.le_add_right _ _ | omega)) hr (takes_of rfl rfl rfl rfl) rfl (qa_cons (q_var 2) (qa_cons (q_var 3) (qa_nil)))) (qa_nil)))))))
    (qss_one (qs_ret (q_bl)))
    (qss_nil))
    (qss_cons (qs_set (i := 4) sc_law.nd rfl (by first | exact Or.inl rfl | exact Or.inr rfl) (q_call ((ok__law_more T).mono (by first | decide | exact Nat.le_add_right _ _ | omega)) hr (takes_of rfl rfl rfl rfl) rfl (qa_cons (q_var 1) (qa_cons (q_var 3) (qa_nil)))))
    (qss_cons (qs_if (qt_not (qt_val (q_call ((ok__law_is_told T).mono (by first | decide | exact Nat.le_add_right _ _ | omega)) hr (takes_of rfl rfl rfl rfl) rfl (qa_cons (q_var 2) (qa_cons (q_var 4) (qa_cons (q_call ((ok_starts_of T).mono (by first | decide | exact Nat.le_add_right _ _ | omega)) hr (takes_of rfl rfl rfl rfl) rfl (qa_cons (q_var 2) (qa_cons (q_var 4) (qa_nil)))) (qa_nil)))))))
    (qss_one (qs_ret (q_bl)))
    (qss_nil))
    (qss_one (qs_ret (q_call ((ok__law_is_told T).mono (by first | decide | exact Nat.le_add_right _ _ | omega)) hr (takes_of rfl rfl rfl rfl) rfl (qa_cons (q_var 2) (qa_cons (q_var 3) (qa_cons (q_call ((ok_starts_of T).mono (by first | decide | exact Nat.le_add_right _ _ | omega)) hr (takes_of rfl rfl rfl rfl) rfl (qa_cons (q_var 2) (qa_cons (q_var 3) (qa_nil)))) (qa_nil)))))))))))))
end
end Lk74

end

section
set_option maxHeartbeats 4000000
/-! Mk74: bounds of times: rising starts, parents, rings. Plain Lean. -/
namespace Bd
abbrev B := Int × Int × Int
/-- the state: starts, parents, when each was set last, the clock, the last one that rose -/
structure Q where
  S : Int → Option Int
  P : Int → Option Int
  t : Int → Nat
  c : Nat
  r : Option Int
def ups {α : Type} (f : Int → α) (k : Int) (v : α) : Int → α := fun x => if x = k then v else f x
theorem ups_same {α : Type} {f : Int → α} {k : Int} {v : α} : ups f k v k = v := by simp [ups]
theorem ups_ne {α : Type} {f : Int → α} {k x : Int} {v : α} (h : x ≠ k) : ups f k v x = f x := by simp [ups, h]
def Q.set (q : Q) (f s v : Int) : Q := ⟨ups q.S s (some v), ups q.P s (some f), ups q.t s (q.c + 1), q.c + 1, some s⟩
def step (q : Q) (b : B) : Q := match q.S b.1 with
  | none => q
  | some v => match q.S b.2.1 with
    | none => q.set b.1 b.2.1 (v + b.2.2)
    | some w => if w < v + b.2.2 then q.set b.1 b.2.1 (v + b.2.2) else q
def fresh (q : Q) : Q := { q with r := none }
def pass (bs : List B) (q : Q) : Q := bs.foldl step (fresh q)
def passes (bs : List B) : Nat → Q → Q
  | 0, q => q
  | n + 1, q => pass bs (passes bs n q)
def q0 : Q := ⟨fun x => if x = -1 then some 0 else none, fun _ => none, fun _ => 0, 0, none⟩
/-- the greatest gaps -/
abbrev Gp := Int → Int → Option Int
def gset (G : Gp) (a b g : Int) : Gp := fun x y => if x = a ∧ y = b then some g else G x y
def gstep (G : Gp) (b : B) : Gp := match G b.1 b.2.1 with
  | none => gset G b.1 b.2.1 b.2.2
  | some g => if g < b.2.2 then gset G b.1 b.2.1 b.2.2 else G
def gaps (bs : List B) : Gp := bs.foldl gstep fun _ _ => none
theorem gstep_cases (G : Gp) (b : B) : (gstep G b = gset G b.1 b.2.1 b.2.2 ∧ ∀ v, G b.1 b.2.1 = some v → v < b.2.2) ∨ (gstep G b = G ∧ ∃ v, G b.1 b.2.1 = some v ∧ b.2.2 ≤ v) := by
  unfold gstep
  cases e : G b.1 b.2.1 with
  | none => exact .inl ⟨rfl, fun v h => by cases h⟩
  | some g =>
    dsimp only
    by_cases h : g < b.2.2
    · rw [if_pos h]
      exact .inl ⟨rfl, fun v z => by cases z; exact h⟩
    · rw [if_neg h]
      exact .inr ⟨rfl, g, rfl, by omega⟩
theorem gstep_le (G : Gp) (b : B) {x y g : Int} (h : G x y = some g) : ∃ g', gstep G b x y = some g' ∧ g ≤ g' := by
  rcases gstep_cases G b with ⟨e, l⟩ | ⟨e, _⟩
  · rw [e]
    unfold gset
    by_cases z : x = b.1 ∧ y = b.2.1
    · rw [if_pos z]
      rw [z.1, z.2] at h
      have := l g h
      exact ⟨_, rfl, by omega⟩
    · rw [if_neg z]
      exact ⟨g, h, Int.le_refl g⟩
  · rw [e]
    exact ⟨g, h, Int.le_refl g⟩
theorem gstep_has (G : Gp) (b : B) : ∃ g', gstep G b b.1 b.2.1 = some g' ∧ b.2.2 ≤ g' := by
  rcases gstep_cases G b with ⟨e, l⟩ | ⟨e, v, hv, l⟩
  · rw [e]
    exact ⟨b.2.2, by simp [gset], Int.le_refl _⟩
  · rw [e]
    exact ⟨v, hv, l⟩
theorem gfold_le : ∀ (bs : List B) (G : Gp) {x y g : Int}, G x y = some g → ∃ g', bs.foldl gstep G x y = some g' ∧ g ≤ g'
  | [], G, x, y, g, h => ⟨g, h, Int.le_refl g⟩
  | b :: bs, G, x, y, g, h => by
    obtain ⟨g1, h1, l1⟩ := gstep_le G b h
    obtain ⟨g2, h2, l2⟩ := gfold_le bs (gstep G b) h1
    exact ⟨g2, h2, by omega⟩
theorem gfold_has : ∀ (bs : List B) (G : Gp) (b : B), b ∈ bs → ∃ g', bs.foldl gstep G b.1 b.2.1 = some g' ∧ b.2.2 ≤ g'
  | c :: bs, G, b, h => by
    rcases List.mem_cons.mp h with rfl | h
    · obtain ⟨g1, h1, l1⟩ := gstep_has G b
      obtain ⟨g2, h2, l2⟩ := gfold_le bs (gstep G b) h1
      exact ⟨g2, h2, by omega⟩
    · exact gfold_has bs (gstep G c) b h
theorem gfold_of : ∀ (bs : List B) (G : Gp) {x y g : Int}, bs.foldl gstep G x y = some g → G x y = some g ∨ (x, y, g) ∈ bs
  | [], G, x, y, g, h => .inl h
  | b :: bs, G, x, y, g, h => by
    rcases gfold_of bs (gstep G b) h with h | h
    · rcases gstep_cases G b with ⟨e, l⟩ | ⟨e, v, hv, l⟩
      · rw [e] at h
        unfold gset at h
        by_cases z : x = b.1 ∧ y = b.2.1
        · rw [if_pos z] at h
          cases h
          rw [z.1, z.2]
          exact .inr (by simp)
        · rw [if_neg z] at h
          exact .inl h
      · rw [e] at h
        exact .inl h
    · exact .inr (List.mem_cons_of_mem _ h)
theorem gaps_has {bs : List B} {f s g : Int} (h : (f, s, g) ∈ bs) : ∃ g', gaps bs f s = some g' ∧ g ≤ g' := gfold_has bs _ (f, s, g) h
theorem gaps_of {bs : List B} {f s g : Int} (h : gaps bs f s = some g) : (f, s, g) ∈ bs := by
  rcases gfold_of bs _ h with h | h
  · cases h
  · exact h
/-- bounds between the beginning and n steps, with one from the beginning to each step -/
structure Ok (n : Nat) (bs : List B) : Prop where
  lo : ∀ b ∈ bs, -1 ≤ b.1 ∧ b.1 < n ∧ -1 ≤ b.2.1 ∧ b.2.1 < n
  all : ∀ i : Nat, i < n → ((-1 : Int), (i : Int), (0 : Int)) ∈ bs
structure Inv (n : Nat) (bs : List B) (q : Q) : Prop where
  edge : ∀ s p, q.P s = some p → ∃ v w g, q.S p = some v ∧ q.S s = some w ∧ gaps bs p s = some g ∧ (w < v + g ∨ (w = v + g ∧ q.t p < q.t s))
  root : ∀ s w, q.S s = some w → q.P s = none → s = -1 ∧ w = 0
  clk : ∀ s, q.t s ≤ q.c
  one : ∃ v, q.S (-1) = some v ∧ 0 ≤ v
  rng : ∀ s w, q.S s = some w → -1 ≤ s ∧ s < n
theorem inv0 {n : Nat} {bs : List B} : Inv n bs q0 := by
  refine ⟨fun s p h => (nomatch h), fun s w h _ => ?_, fun s => Nat.le_refl _, ⟨0, by simp [q0], by omega⟩, fun s w h => ?_⟩
  · unfold q0 at h
    dsimp only at h
    split at h
    · cases h
      exact ⟨by assumption, rfl⟩
    · cases h
  · unfold q0 at h
    dsimp only at h
    split at h
    · omega
    · cases h
theorem inv_set {n : Nat} {bs : List B} (ok : Ok n bs) {q : Q} (I : Inv n bs q) {f s g v : Int} (hb : (f, s, g) ∈ bs) (hv : q.S f = some v) (hs : ∀ w, q.S s = some w → w < v + g) : Inv n bs (q.set f s (v + g)) := by
  obtain ⟨G, hG, lG⟩ := gaps_has hb
  refine ⟨fun a p h => ?_, fun a w h hp => ?_, fun a => ?_, ?_, fun a w h => ?_⟩
  · show ∃ v' w g', ups q.S s (some (v + g)) p = some v' ∧ ups q.S s (some (v + g)) a = some w ∧ gaps bs p a = some g' ∧ (w < v' + g' ∨ (w = v' + g' ∧ ups q.t s (q.c + 1) p < ups q.t s (q.c + 1) a))
    have h : ups q.P s (some f) a = some p := h
    by_cases ha : a = s
    · subst ha
      rw [ups_same] at h
      cases h
      by_cases hf : f = a
      · subst hf
        have := hs v hv
        exact ⟨v + g, v + g, G, ups_same, ups_same, hG, .inl (by omega)⟩
      · refine ⟨v, v + g, G, by rw [ups_ne hf]; exact hv, ups_same, hG, ?_⟩
        by_cases hlt : g < G
        · exact .inl (by omega)
        · refine .inr ⟨by omega, ?_⟩
          rw [ups_same, ups_ne hf]
          have := I.clk f
          omega
    · rw [ups_ne ha] at h
      obtain ⟨v1, w1, g1, e1, e2, e3, e4⟩ := I.edge a p h
      by_cases hp : p = s
      · subst hp
        have := hs v1 e1
        exact ⟨v + g, w1, g1, ups_same, by rw [ups_ne ha]; exact e2, e3, .inl (by omega)⟩
      · exact ⟨v1, w1, g1, by rw [ups_ne hp]; exact e1, by rw [ups_ne ha]; exact e2, e3, by rw [ups_ne hp, ups_ne ha]; exact e4⟩
  · have h : ups q.S s (some (v + g)) a = some w := h
    have hp : ups q.P s (some f) a = none := hp
    by_cases ha : a = s
    · subst ha
      rw [ups_same] at hp
      cases hp
    · rw [ups_ne ha] at h hp
      exact I.root a w h hp
  · show ups q.t s (q.c + 1) a ≤ q.c + 1
    by_cases ha : a = s
    · subst ha
      rw [ups_same]
      omega
    · rw [ups_ne ha]
      have := I.clk a
      omega
  · obtain ⟨u, hu, lu⟩ := I.one
    show ∃ v', ups q.S s (some (v + g)) (-1) = some v' ∧ 0 ≤ v'
    by_cases ha : -1 = s
    · subst ha
      have := hs u hu
      exact ⟨v + g, ups_same, by omega⟩
    · exact ⟨u, by rw [ups_ne ha]; exact hu, lu⟩
  · have h : ups q.S s (some (v + g)) a = some w := h
    by_cases ha : a = s
    · subst ha
      have := ok.lo _ hb
      exact ⟨this.2.2.1, this.2.2.2⟩
    · rw [ups_ne ha] at h
      exact I.rng a w h
theorem inv_step {n : Nat} {bs : List B} (ok : Ok n bs) {q : Q} (I : Inv n bs q) {b : B} (hb : b ∈ bs) : Inv n bs (step q b) := by
  obtain ⟨f, s, g⟩ := b
  unfold step
  split
  · exact I
  · rename_i v e
    split
    · rename_i e2
      exact inv_set ok I hb e fun w h => by rw [e2] at h; cases h
    · rename_i w e2
      split
      · rename_i hl
        exact inv_set ok I hb e fun w' h => by rw [e2] at h; cases h; exact hl
      · exact I
theorem inv_fold {n : Nat} {bs : List B} (ok : Ok n bs) : ∀ (l : List B), (∀ b ∈ l, b ∈ bs) → ∀ q : Q, Inv n bs q → Inv n bs (l.foldl step q)
  | [], _, q, I => I
  | b :: l, h, q, I => inv_fold ok l (fun x hx => h x (List.mem_cons_of_mem _ hx)) (step q b) (inv_step ok I (h b (by simp)))
theorem inv_fresh {n : Nat} {bs : List B} {q : Q} (I : Inv n bs q) : Inv n bs (fresh q) := ⟨I.edge, I.root, I.clk, I.one, I.rng⟩
theorem inv_passes {n : Nat} {bs : List B} (ok : Ok n bs) : ∀ k, Inv n bs (passes bs k q0)
  | 0 => inv0
  | k + 1 => inv_fold ok bs (fun _ h => h) _ (inv_fresh (inv_passes ok k))
/-! ### rising -/
def Le (q q' : Q) : Prop := ∀ x v, q.S x = some v → ∃ v', q'.S x = some v' ∧ v ≤ v'
theorem Le.refl (q : Q) : Le q q := fun x v h => ⟨v, h, Int.le_refl v⟩
theorem Le.trans {a b c : Q} (h : Le a b) (g : Le b c) : Le a c := fun x v e => by
  obtain ⟨v1, e1, l1⟩ := h x v e
  obtain ⟨v2, e2, l2⟩ := g x v1 e1
  exact ⟨v2, e2, by omega⟩
theorem set_le {q : Q} {f s u : Int} (hs : ∀ w, q.S s = some w → w < u) : Le q (q.set f s u) := fun x v h => by
  show ∃ v', ups q.S s (some u) x = some v' ∧ v ≤ v'
  by_cases hx : x = s
  · subst hx
    exact ⟨u, ups_same, by have := hs v h; omega⟩
  · exact ⟨v, by rw [ups_ne hx]; exact h, Int.le_refl v⟩
theorem step_cases (q : Q) (b : B) : (step q b = q ∧ ∀ v, q.S b.1 = some v → ∃ w, q.S b.2.1 = some w ∧ v + b.2.2 ≤ w) ∨
    (∃ v, q.S b.1 = some v ∧ step q b = q.set b.1 b.2.1 (v + b.2.2) ∧ ∀ w, q.S b.2.1 = some w → w < v + b.2.2) := by
  unfold step
  split
  · rename_i e
    exact .inl ⟨rfl, fun v h => by rw [e] at h; cases h⟩
  · rename_i v e
    split
    · rename_i e2
      exact .inr ⟨v, e, rfl, fun w h => by rw [e2] at h; cases h⟩
    · rename_i w e2
      split
      · rename_i hl
        exact .inr ⟨v, e, rfl, fun w' h => by rw [e2] at h; cases h; exact hl⟩
      · rename_i hl
        exact .inl ⟨rfl, fun v' h => by rw [e] at h; cases h; exact ⟨w, e2, by omega⟩⟩
theorem step_le (q : Q) (b : B) : Le q (step q b) := by
  rcases step_cases q b with ⟨e, _⟩ | ⟨v, _, e, h⟩
  · rw [e]
    exact Le.refl q
  · rw [e]
    exact set_le h
theorem fold_le : ∀ (l : List B) (q : Q), Le q (l.foldl step q)
  | [], q => Le.refl q
  | b :: l, q => (step_le q b).trans (fold_le l (step q b))
theorem step_done (q : Q) (b : B) {v : Int} (h : q.S b.1 = some v) : ∃ w, (step q b).S b.2.1 = some w ∧ v + b.2.2 ≤ w := by
  rcases step_cases q b with ⟨e, h2⟩ | ⟨v', e1, e, h2⟩
  · rw [e]
    exact h2 v h
  · rw [h] at e1
    cases e1
    rw [e]
    exact ⟨v + b.2.2, ups_same, Int.le_refl _⟩
theorem fold_done : ∀ (l : List B) (q : Q) (b : B) {v : Int}, b ∈ l → q.S b.1 = some v → ∃ w, (l.foldl step q).S b.2.1 = some w ∧ v + b.2.2 ≤ w
  | c :: l, q, b, v, hb, h => by
    rcases List.mem_cons.mp hb with rfl | hb
    · obtain ⟨w, e, lw⟩ := step_done q b h
      obtain ⟨w', e', lw'⟩ := fold_le l (step q b) _ w e
      exact ⟨w', e', by omega⟩
    · obtain ⟨v', e, lv⟩ := step_le q c _ v h
      obtain ⟨w, e', lw⟩ := fold_done l (step q c) b hb e
      exact ⟨w, e', by omega⟩
theorem pass_le (bs : List B) (q : Q) : Le q (pass bs q) := fold_le bs (fresh q)
theorem fold_none : ∀ (l : List B) (q : Q), (l.foldl step q).r = none → l.foldl step q = q ∧ ∀ b ∈ l, ∀ v, q.S b.1 = some v → ∃ w, q.S b.2.1 = some w ∧ v + b.2.2 ≤ w
  | [], q, _ => ⟨rfl, fun b h => by cases h⟩
  | b :: l, q, h => by
    obtain ⟨e, h2⟩ := fold_none l (step q b) h
    rcases step_cases q b with ⟨e1, h1⟩ | ⟨v, _, e1, _⟩
    · refine ⟨by show l.foldl step (step q b) = q; rw [e, e1], fun c hc => ?_⟩
      rcases List.mem_cons.mp hc with rfl | hc
      · exact h1
      · rw [e1] at h2
        exact h2 c hc
    · have : (l.foldl step (step q b)).r = none := h
      rw [e, e1] at this
      cases this
theorem fold_some : ∀ (l : List B) (q : Q) {x : Int}, (l.foldl step q).r = some x → q.r = some x ∨ ∃ w', (l.foldl step q).S x = some w' ∧ ∀ w, q.S x = some w → w < w'
  | [], q, x, h => .inl h
  | b :: l, q, x, h => by
    have h : (l.foldl step (step q b)).r = some x := h
    show _ ∨ ∃ w', (l.foldl step (step q b)).S x = some w' ∧ _
    rcases fold_some l (step q b) h with h1 | ⟨w', e1, h1⟩
    · rcases step_cases q b with ⟨e, _⟩ | ⟨v, hv, e, hl⟩
      · rw [e] at h1
        exact .inl h1
      · rw [e] at h1
        have hx : b.2.1 = x := by cases h1; rfl
        subst hx
        obtain ⟨w', e', lw⟩ := fold_le l (step q b) b.2.1 (v + b.2.2) (by rw [e]; exact ups_same)
        exact .inr ⟨w', e', fun w hw => by have := hl w hw; omega⟩
    · refine .inr ⟨w', e1, fun w hw => ?_⟩
      obtain ⟨u, eu, lu⟩ := step_le q b x w hw
      have := h1 u eu
      omega
theorem pass_none {bs : List B} {q : Q} (h : (pass bs q).r = none) : pass bs q = fresh q ∧ ∀ b ∈ bs, ∀ v, q.S b.1 = some v → ∃ w, q.S b.2.1 = some w ∧ v + b.2.2 ≤ w := fold_none bs (fresh q) h
theorem pass_some {bs : List B} {q : Q} {x : Int} (h : (pass bs q).r = some x) : ∃ w', (pass bs q).S x = some w' ∧ ∀ w, q.S x = some w → w < w' := by
  rcases fold_some bs (fresh q) h with z | z
  · cases z
  · exact z
/-! ### walks from the beginning -/
inductive Wk (bs : List B) : Int → Int → Nat → Prop
  | nil : Wk bs (-1) 0 0
  | snoc {u x g W : Int} {k : Nat} : Wk bs u W k → (u, x, g) ∈ bs → Wk bs x (W + g) (k + 1)
theorem passes_le (bs : List B) (q : Q) : ∀ (m k : Nat), Le (passes bs k q) (passes bs (k + m) q)
  | 0, k => Le.refl _
  | m + 1, k => (passes_le bs q m k).trans (pass_le bs _)
theorem passes_walk {bs : List B} {x W : Int} {k : Nat} (w : Wk bs x W k) : ∀ j, k ≤ j → ∃ v, (passes bs j q0).S x = some v ∧ W ≤ v := by
  have key : ∃ v, (passes bs k q0).S x = some v ∧ W ≤ v := by
    induction w with
    | nil => exact ⟨0, by simp [passes, q0], Int.le_refl 0⟩
    | @snoc u x g W k w hb ih =>
      obtain ⟨v, e, l⟩ := ih
      obtain ⟨v', e', l'⟩ := fold_done bs (fresh (passes bs k q0)) (u, x, g) hb e
      exact ⟨v', e', by dsimp only at l'; omega⟩
  intro j hj
  obtain ⟨v, e, l⟩ := key
  obtain ⟨v', e', l'⟩ := passes_le bs q0 (j - k) k x v e
  rw [show k + (j - k) = j by omega] at e'
  exact ⟨v', e', by omega⟩
/-! ### going up by parents -/
def it (P : Int → Option Int) (a : Int) : Nat → Int
  | 0 => a
  | n + 1 => (P (it P a n)).getD 0
def wt (G : Gp) (P : Int → Option Int) (a : Int) : Nat → Int
  | 0 => 0
  | n + 1 => wt G P a n + (G (it P a (n + 1)) (it P a n)).getD 0
/-- the first n parents are there -/
def Up (P : Int → Option Int) (a : Int) (n : Nat) : Prop := ∀ i, i < n → P (it P a i) ≠ none
theorem Up.get {P : Int → Option Int} {a : Int} {n i : Nat} (u : Up P a n) (h : i < n) : P (it P a i) = some (it P a (i + 1)) := by
  cases e : P (it P a i) with
  | none => exact absurd e (u i h)
  | some p => simp [it, e]
theorem Up.mono {P : Int → Option Int} {a : Int} {n m : Nat} (u : Up P a n) (h : m ≤ n) : Up P a m := fun i hi => u i (by omega)
theorem it_add (P : Int → Option Int) (a : Int) (i : Nat) : ∀ j, it P (it P a i) j = it P a (i + j)
  | 0 => rfl
  | j + 1 => by
    show (P (it P (it P a i) j)).getD 0 = (P (it P a (i + j))).getD 0
    rw [it_add P a i j]
theorem wt_add (G : Gp) (P : Int → Option Int) (a : Int) (i : Nat) : ∀ j, wt G P a (i + j) = wt G P a i + wt G P (it P a i) j
  | 0 => by simp [wt]
  | j + 1 => by
    show wt G P a (i + j) + (G (it P a (i + j + 1)) (it P a (i + j))).getD 0 = wt G P a i + (wt G P (it P a i) j + (G (it P (it P a i) (j + 1)) (it P (it P a i) j)).getD 0)
    rw [wt_add G P a i j, it_add P a i j, it_add P a i (j + 1)]
    rw [show i + (j + 1) = i + j + 1 by omega]
    omega
theorem Up.shift {P : Int → Option Int} {a : Int} {n i : Nat} (u : Up P a n) (m : Nat) (h : i + m ≤ n) : Up P (it P a i) m := fun j hj => by
  rw [it_add]
  exact u (i + j) (by omega)
theorem up_S {n : Nat} {bs : List B} {q : Q} (I : Inv n bs q) {a wa : Int} (ha : q.S a = some wa) : ∀ k, Up q.P a k → ∃ v, q.S (it q.P a k) = some v ∧ (wa < v + wt (gaps bs) q.P a k ∨ (wa = v + wt (gaps bs) q.P a k ∧ (k = 0 ∨ q.t (it q.P a k) < q.t a)))
  | 0, _ => ⟨wa, ha, .inr ⟨by simp [wt], .inl rfl⟩⟩
  | k + 1, u => by
    obtain ⟨v, e, h⟩ := up_S I ha k (u.mono (by omega))
    obtain ⟨v', w', g, e1, e2, e3, e4⟩ := I.edge _ _ (u.get (show k < k + 1 by omega))
    rw [e] at e2
    cases e2
    refine ⟨v', e1, ?_⟩
    show wa < v' + (wt (gaps bs) q.P a k + (gaps bs (it q.P a (k + 1)) (it q.P a k)).getD 0) ∨ (wa = v' + (wt (gaps bs) q.P a k + (gaps bs (it q.P a (k + 1)) (it q.P a k)).getD 0) ∧ _)
    rw [e3]
    simp only [Option.getD_some]
    rcases h with h | ⟨h, h'⟩
    · rcases e4 with e4 | ⟨e4, _⟩ <;> exact .inl (by omega)
    · rcases e4 with e4 | ⟨e4, e5⟩
      · exact .inl (by omega)
      · refine .inr ⟨by omega, .inr ?_⟩
        rcases h' with h' | h'
        · subst h'
          exact e5
        · omega
/-- a ring sums to more than 0 -/
theorem ring_pos {n : Nat} {bs : List B} {q : Q} (I : Inv n bs q) {a wa : Int} (ha : q.S a = some wa) {k : Nat} (hk : 0 < k) (u : Up q.P a k) (e : it q.P a k = a) : 0 < wt (gaps bs) q.P a k := by
  obtain ⟨v, e1, h⟩ := up_S I ha k u
  rw [e, ha] at e1
  cases e1
  rcases h with h | ⟨h, h' | h'⟩
  · omega
  · omega
  · rw [e] at h'
    omega
theorem up_rng {n : Nat} {bs : List B} {q : Q} (I : Inv n bs q) {a wa : Int} (ha : q.S a = some wa) {k : Nat} (u : Up q.P a k) : -1 ≤ it q.P a k ∧ it q.P a k < n := by
  obtain ⟨v, e, _⟩ := up_S I ha k u
  exact I.rng _ _ e
/-- what stands on a chain down from the beginning is a walk -/
theorem up_walk {n : Nat} {bs : List B} {q : Q} (I : Inv n bs q) {a : Int} : ∀ k, Up q.P a k → ∀ (W : Int) (j : Nat), Wk bs (it q.P a k) W j → Wk bs a (W + wt (gaps bs) q.P a k) (j + k)
  | 0, _, W, j, w => by simpa [wt, it] using w
  | k + 1, u, W, j, w => by
    obtain ⟨v', w', g, e1, e2, e3, e4⟩ := I.edge _ _ (u.get (show k < k + 1 by omega))
    have := up_walk I k (u.mono (by omega)) (W + g) (j + 1) (.snoc w (gaps_of e3))
    have e : wt (gaps bs) q.P a (k + 1) = wt (gaps bs) q.P a k + g := by
      show _ + (gaps bs (it q.P a (k + 1)) (it q.P a k)).getD 0 = _
      rw [e3]
      rfl
    rw [e, show j + (k + 1) = j + 1 + k by omega, show W + (wt (gaps bs) q.P a k + g) = W + g + wt (gaps bs) q.P a k by omega]
    exact this
/-! ### pigeonholes -/
theorem nodup_sub : ∀ (R l : List Int), l.Nodup → (∀ x ∈ l, x ∈ R) → l.length ≤ R.length
  | [], l, _, h => by
    cases l with
    | nil => exact Nat.le_refl _
    | cons x l => exact absurd (h x (by simp)) (by simp)
  | r :: R, l, nd, h => by
    have e : l.length ≤ (l.erase r).length + 1 := by
      rw [List.length_erase]
      split <;> omega
    have := nodup_sub R (l.erase r) (nd.erase r) fun x hx => by
      rw [nd.mem_erase_iff] at hx
      have := h x hx.2
      simp [hx.1] at this
      exact this
    simp
    omega
theorem pigeon {n : Nat} (f : Nat → Int) (h : ∀ i, i ≤ n + 1 → -1 ≤ f i ∧ f i < n) : ∃ i j, i < j ∧ j ≤ n + 1 ∧ f i = f j := by
  apply Classical.byContradiction
  intro no
  have inj : ∀ i j, i < j → j ≤ n + 1 → f i ≠ f j := fun i j h1 h2 e => no ⟨i, j, h1, h2, e⟩
  have := nodup_sub ((List.range (n + 1)).map fun (k : Nat) => (k : Int) - 1) ((List.range (n + 2)).map f) (by
      rw [List.nodup_iff_pairwise_ne, List.pairwise_map]
      rw [List.pairwise_iff_getElem]
      intro i j hi hj hij
      simp at hi hj ⊢
      exact inj i j hij (by omega)) (fun x hx => by
      obtain ⟨i, hi, rfl⟩ := List.mem_map.mp hx
      rw [List.mem_range] at hi
      obtain ⟨h1, h2⟩ := h i (by omega)
      exact List.mem_map.mpr ⟨(f i + 1).toNat, List.mem_range.mpr (by omega), by omega⟩)
  simp at this
/-! ### no rise: chains -/
structure Still (n : Nat) (bs : List B) (q : Q) : Prop where
  inv : Inv n bs q
  ok : Ok n bs
  bd : ∀ b ∈ bs, ∀ v, q.S b.1 = some v → ∃ w, q.S b.2.1 = some w ∧ v + b.2.2 ≤ w
  all : ∀ x : Int, -1 ≤ x → x < n → ∃ v, q.S x = some v
theorem still_of {n : Nat} {bs : List B} (ok : Ok n bs) {q : Q} (I : Inv n bs q) (h : (pass bs q).r = none) : Still n bs q := by
  have bd := (pass_none h).2
  refine ⟨I, ok, bd, fun x h1 h2 => ?_⟩
  obtain ⟨v, e, l⟩ := I.one
  by_cases hx : x = -1
  · subst hx
    exact ⟨v, e⟩
  · obtain ⟨w, e', _⟩ := bd _ (ok.all x.toNat (by omega)) v e
    rw [show ((x.toNat : Nat) : Int) = x by omega] at e'
    exact ⟨w, e'⟩
theorem Still.edge {n : Nat} {bs : List B} {q : Q} (st : Still n bs q) {s p : Int} (h : q.P s = some p) : ∃ v w g, q.S p = some v ∧ q.S s = some w ∧ gaps bs p s = some g ∧ w = v + g := by
  obtain ⟨v, w, g, e1, e2, e3, e4⟩ := st.inv.edge s p h
  obtain ⟨w', e5, l⟩ := st.bd _ (gaps_of e3) v e1
  rw [e2] at e5
  cases e5
  dsimp only at l
  exact ⟨v, w, g, e1, e2, e3, by omega⟩
theorem Still.sum {n : Nat} {bs : List B} {q : Q} (st : Still n bs q) {a wa : Int} (ha : q.S a = some wa) : ∀ k, Up q.P a k → q.S (it q.P a k) = some (wa - wt (gaps bs) q.P a k)
  | 0, _ => by simpa [wt, it] using ha
  | k + 1, u => by
    have e := st.sum ha k (u.mono (by omega))
    obtain ⟨v, w, g, e1, e2, e3, e4⟩ := st.edge (u.get (show k < k + 1 by omega))
    rw [e] at e2
    cases e2
    show q.S (it q.P a (k + 1)) = some (wa - (wt (gaps bs) q.P a k + (gaps bs (it q.P a (k + 1)) (it q.P a k)).getD 0))
    rw [e3, e1]
    simp only [Option.getD_some]
    congr 1
    omega
theorem Still.noring {n : Nat} {bs : List B} {q : Q} (st : Still n bs q) {a wa : Int} (ha : q.S a = some wa) {k : Nat} (hk : 0 < k) (u : Up q.P a k) (e : it q.P a k = a) : False := by
  have h1 := ring_pos st.inv ha hk u e
  have h2 := st.sum ha k u
  rw [e, ha] at h2
  injection h2 with h2
  omega
/-- the chain up from a step ends at the beginning -/
theorem Still.chain {n : Nat} {bs : List B} {q : Q} (st : Still n bs q) {a wa : Int} (ha : q.S a = some wa) : ∃ k, k ≤ n ∧ Up q.P a k ∧ it q.P a k = -1 ∧ wt (gaps bs) q.P a k = wa ∧ (∀ i, i < k → it q.P a i ≠ -1) := by
  have noup : ¬ Up q.P a (n + 1) := fun u => by
    obtain ⟨i, j, h1, h2, e⟩ := pigeon (n := n) (it q.P a) fun i hi => up_rng st.inv ha (u.mono hi)
    refine st.noring (st.sum ha i (u.mono (by omega))) (k := j - i) (by omega) (u.shift (j - i) (by omega)) ?_
    rw [it_add, show i + (j - i) = j by omega]
    exact e.symm
  have least : ∀ m, ¬ Up q.P a m → ∃ k, k < m ∧ Up q.P a k ∧ q.P (it q.P a k) = none := by
    intro m
    induction m with
    | zero => exact fun h => absurd (fun i hi => absurd hi (by omega)) h
    | succ m ih =>
      intro h
      by_cases hm : Up q.P a m
      · refine ⟨m, by omega, hm, ?_⟩
        cases e : q.P (it q.P a m) with
        | none => rfl
        | some p =>
          refine absurd (fun i hi => ?_) h
          by_cases hi2 : i = m
          · rw [hi2, e]
            simp
          · exact hm i (by omega)
      · obtain ⟨k, hk, r⟩ := ih hm
        exact ⟨k, by omega, r⟩
  obtain ⟨k, hk, u, hn⟩ := least (n + 1) noup
  obtain ⟨r1, r2⟩ := st.inv.root _ _ (st.sum ha k u) hn
  refine ⟨k, by omega, u, r1, by omega, fun i hi e => ?_⟩
  rw [← r1] at e
  have := u i hi
  rw [e] at this
  exact this hn
/-! ### the law's own rows -/
/-- rows over the steps: at x the least time so far -/
def lstep (R : Int → Int) (L : Int → Int) (b : B) : Int → Int := ups L b.2.1 (if R b.1 + b.2.2 > L b.2.1 then R b.1 + b.2.2 else L b.2.1)
def lpass (bs : List B) (R : Int → Int) : Int → Int := bs.foldl (lstep R) R
def lrow (bs : List B) : Nat → Int → Int
  | 0 => fun _ => 0
  | k + 1 => lpass bs (lrow bs k)
theorem lfold_ge (R : Int → Int) : ∀ (l : List B) (L : Int → Int) (x : Int), L x ≤ l.foldl (lstep R) L x
  | [], L, x => Int.le_refl _
  | b :: l, L, x => by
    have h1 : L x ≤ lstep R L b x := by
      unfold lstep ups
      split
      · rename_i e
        rw [e]
        split <;> omega
      · exact Int.le_refl _
    exact Int.le_trans h1 (lfold_ge R l _ x)
theorem lfold_done (R : Int → Int) : ∀ (l : List B) (L : Int → Int) (b : B), b ∈ l → R b.1 + b.2.2 ≤ l.foldl (lstep R) L b.2.1
  | c :: l, L, b, h => by
    rcases List.mem_cons.mp h with rfl | h
    · refine Int.le_trans ?_ (lfold_ge R l _ _)
      unfold lstep ups
      rw [if_pos rfl]
      split <;> omega
    · exact lfold_done R l _ b h
theorem lfold_le (R : Int → Int) (T : Int → Int) : ∀ (l : List B) (L : Int → Int), (∀ x, L x ≤ T x) → (∀ b ∈ l, R b.1 + b.2.2 ≤ T b.2.1) → ∀ x, l.foldl (lstep R) L x ≤ T x
  | [], L, h, _, x => h x
  | b :: l, L, h, hb, x => by
    refine lfold_le R T l (lstep R L b) (fun y => ?_) (fun c hc => hb c (List.mem_cons_of_mem _ hc)) x
    unfold lstep ups
    split
    · rename_i e
      rw [e]
      have := hb b (by simp)
      have := h b.2.1
      split <;> omega
    · exact h y
theorem lrow_ge (bs : List B) (k : Nat) (x : Int) : lrow bs k x ≤ lrow bs (k + 1) x := lfold_ge _ bs _ x
theorem lrow_walk {bs : List B} {x W : Int} {k : Nat} (w : Wk bs x W k) : W ≤ lrow bs k x := by
  induction w with
  | nil => exact Int.le_refl _
  | @snoc u x g W k w hb ih =>
    have := lfold_done (lrow bs k) bs (lrow bs k) (u, x, g) hb
    exact Int.le_trans (by dsimp only at this ⊢; omega) this
/-- the rows are below all times that keep the bounds -/
theorem lrow_le {bs : List B} {T : Int → Int} (h0 : ∀ x, 0 ≤ T x) (hb : ∀ b ∈ bs, T b.1 + b.2.2 ≤ T b.2.1) : ∀ k x, lrow bs k x ≤ T x
  | 0, x => h0 x
  | k + 1, x => lfold_le _ T bs _ (lrow_le h0 hb k) (fun b hb' => by
      have := lrow_le h0 hb k b.1
      have := hb b hb'
      omega) x
theorem lrow_mono (bs : List B) (k : Nat) (x : Int) : ∀ m, lrow bs k x ≤ lrow bs (k + m) x
  | 0 => Int.le_refl _
  | m + 1 => Int.le_trans (lrow_mono bs k x m) (lrow_ge bs (k + m) x)
def Still.T {n : Nat} {bs : List B} {q : Q} (_ : Still n bs q) (x : Int) : Int := if -1 ≤ x ∧ x < n then (q.S x).getD 0 else 0
theorem Still.get {n : Nat} {bs : List B} {q : Q} (st : Still n bs q) {x : Int} (h1 : -1 ≤ x) (h2 : x < n) : q.S x = some (st.T x) := by
  obtain ⟨v, e⟩ := st.all x h1 h2
  unfold Still.T
  rw [if_pos ⟨h1, h2⟩, e]
  rfl
theorem Still.first {n : Nat} {bs : List B} {q : Q} (st : Still n bs q) : q.S (-1) = some 0 := by
  obtain ⟨v, e, _⟩ := st.inv.one
  obtain ⟨k, _, u, e1, e2, e3⟩ := st.chain e
  cases k with
  | zero =>
    rw [e]
    simp [wt] at e2
    rw [e2]
  | succ k => exact absurd rfl (e3 0 (by omega))
theorem Still.pos {n : Nat} {bs : List B} {q : Q} (st : Still n bs q) (x : Int) : 0 ≤ st.T x := by
  by_cases h : -1 ≤ x ∧ x < n
  · have e := st.get h.1 h.2
    by_cases hx : x = -1
    · subst hx
      rw [st.first] at e
      injection e with e
      omega
    · obtain ⟨w, e', l⟩ := st.bd _ (st.ok.all x.toNat (by omega)) 0 st.first
      rw [show ((x.toNat : Nat) : Int) = x by omega, e] at e'
      injection e' with e'
      dsimp only at l
      omega
  · unfold Still.T
    rw [if_neg h]
    omega
/-- from turn n on the law's rows are the program's -/
theorem Still.rows {n : Nat} {bs : List B} {q : Q} (st : Still n bs q) (k : Nat) (hk : n ≤ k) (x : Int) (h1 : -1 ≤ x) (h2 : x < n) : lrow bs k x = st.T x := by
  have le := lrow_le (bs := bs) (T := st.T) st.pos (fun b hb => by
    obtain ⟨l1, l2, l3, l4⟩ := st.ok.lo b hb
    obtain ⟨w, e, l⟩ := st.bd b hb _ (st.get l1 l2)
    rw [st.get l3 l4] at e
    injection e with e
    omega) k x
  obtain ⟨m, hm, u, e1, e2, _⟩ := st.chain (st.get h1 h2)
  have w := up_walk st.inv m u 0 0 (by rw [e1]; exact .nil)
  rw [e2] at w
  have w := lrow_walk w
  have := lrow_mono bs (0 + m) x (k - (0 + m))
  rw [show 0 + m + (k - (0 + m)) = k by omega] at this
  omega
/-- rows that stand still keep all bounds -/
theorem lrow_still {n : Nat} {bs : List B} (ok : Ok n bs) {k : Nat} (h : ∀ x : Int, -1 ≤ x → x < n → lrow bs (k + 1) x = lrow bs k x) : ∀ b ∈ bs, lrow bs k b.1 + b.2.2 ≤ lrow bs k b.2.1 := fun b hb => by
  obtain ⟨l1, l2, l3, l4⟩ := ok.lo b hb
  rw [← h b.2.1 l3 l4]
  exact lfold_done _ bs _ b hb
theorem Still.rows_at {n : Nat} {bs : List B} {q : Q} (st : Still n bs q) {k : Nat} (h : ∀ x : Int, -1 ≤ x → x < n → lrow bs (k + 1) x = lrow bs k x) (x : Int) (h1 : -1 ≤ x) (h2 : x < n) : lrow bs k x = st.T x := by
  have hb := lrow_still st.ok h
  -- the rows at k keep all bounds, so they are above all walks
  have wl : ∀ (x W : Int) (j : Nat), Wk bs x W j → W ≤ lrow bs k x := by
    intro x W j w
    induction w with
    | nil =>
      have := lrow_mono bs 0 (-1) k
      rw [Nat.zero_add] at this
      exact this
    | @snoc u x g W j w hb' ih =>
      have := hb _ hb'
      dsimp only at this
      omega
  have le := lrow_le (bs := bs) (T := st.T) st.pos (fun b hb => by
    obtain ⟨l1, l2, l3, l4⟩ := st.ok.lo b hb
    obtain ⟨w, e, l⟩ := st.bd b hb _ (st.get l1 l2)
    rw [st.get l3 l4] at e
    injection e with e
    omega) k x
  obtain ⟨m, hm, u, e1, e2, _⟩ := st.chain (st.get h1 h2)
  have w := up_walk st.inv m u 0 0 (by rw [e1]; exact .nil)
  rw [e2] at w
  have := wl _ _ _ w
  omega
/-! ### a rise in the last pass: a ring -/
structure Ring (n : Nat) (bs : List B) (P : Int → Option Int) (x : Int) (p : Nat) : Prop where
  pos : 0 < p
  few : p ≤ n + 1
  up : ∀ k, Up P x k
  back : it P x p = x
  ne : ∀ i j, i < j → j < p → it P x i ≠ it P x j
  sum : 0 < wt (gaps bs) P x p
  rng : ∀ k, -1 ≤ it P x k ∧ it P x k < n
  gap : ∀ k, ∃ g, gaps bs (it P x (k + 1)) (it P x k) = some g
theorem ring_of {n : Nat} {bs : List B} (ok : Ok n bs) {x : Int} (h : (passes bs (n + 2) q0).r = some x) : Up (passes bs (n + 2) q0).P x (n + 2) ∧ ∃ p, Ring n bs (passes bs (n + 2) q0).P (it (passes bs (n + 2) q0).P x (n + 2)) p := by
  have I := inv_passes ok (n + 2)
  obtain ⟨w', hx, hw⟩ := pass_some (q := passes bs (n + 1) q0) h
  generalize hq : passes bs (n + 2) q0 = q at *
  have hx : q.S x = some w' := by rw [← hq]; exact hx
  have up : ∀ k, k ≤ n + 2 → Up q.P x k := by
    intro k
    induction k with
    | zero => exact fun _ i hi => absurd hi (by omega)
    | succ k ih =>
      intro hk
      have u := ih (by omega)
      intro i hi
      by_cases hi2 : i = k
      · subst hi2
        intro hn
        obtain ⟨v, e, hl⟩ := up_S I hx i u
        obtain ⟨r1, r2⟩ := I.root _ _ e hn
        have w := up_walk I i u 0 0 (by rw [r1]; exact .nil)
        obtain ⟨v', e', l'⟩ := passes_walk w (n + 1) (by omega)
        have := hw v' e'
        rcases hl with hl | hl <;> omega
      · exact u i (by omega)
  have u2 := up (n + 2) (Nat.le_refl _)
  refine ⟨u2, ?_⟩
  obtain ⟨i, j, h1, h2, e⟩ := pigeon (n := n) (it q.P x) fun i hi => up_rng I hx (u2.mono (by omega))
  -- from i on it turns round
  have per : ∀ k, i ≤ k → it q.P x (k + (j - i)) = it q.P x k := by
    intro k hk
    obtain ⟨m, rfl⟩ : ∃ m, k = i + m := ⟨k - i, by omega⟩
    rw [show i + m + (j - i) = j + m by omega, ← it_add, ← it_add, e]
  have upall : ∀ k, Up q.P x k := by
    have key : ∀ k, q.P (it q.P x k) ≠ none := by
      intro k
      induction k using Nat.strongRecOn with
      | ind k ih =>
        by_cases hk : k < n + 2
        · exact u2 k hk
        · rw [show k = (k - (j - i)) + (j - i) by omega, per _ (by omega)]
          exact ih _ (by omega)
    exact fun k i _ => key i
  obtain ⟨y, hy⟩ : ∃ y, it q.P x (n + 2) = y := ⟨_, rfl⟩
  have upy : ∀ k, Up q.P y k := fun k => by
    rw [← hy]
    exact (upall (n + 2 + k)).shift k (by omega)
  have hret : ∃ p, 0 < p ∧ p ≤ n + 1 ∧ it q.P y p = y := ⟨j - i, by omega, by omega, by rw [← hy, it_add]; exact per _ (by omega)⟩
  -- the least such p
  have least : ∀ m, (∃ p, 0 < p ∧ p ≤ m ∧ it q.P y p = y) → ∃ p, 0 < p ∧ p ≤ m ∧ it q.P y p = y ∧ ∀ k, 0 < k → k < p → it q.P y k ≠ y := by
    intro m
    induction m with
    | zero => exact fun ⟨p, h1, h2, _⟩ => absurd h1 (by omega)
    | succ m ih =>
      intro ⟨p, h1, h2, h3⟩
      by_cases hm : ∃ p, 0 < p ∧ p ≤ m ∧ it q.P y p = y
      · obtain ⟨p, a, b, c, d⟩ := ih hm
        exact ⟨p, a, by omega, c, d⟩
      · refine ⟨p, h1, h2, h3, fun k hk1 hk2 e => hm ⟨k, hk1, by omega, e⟩⟩
  obtain ⟨p, p1, p2, p3, p4⟩ := least (n + 1) hret
  obtain ⟨wy, ey, _⟩ := up_S I hx (n + 2) u2
  rw [hy] at ey
  rw [hy]
  refine ⟨p, p1, p2, upy, p3, fun i j h1 h2 e => ?_, ring_pos I ey p1 (upy p) p3, fun k => up_rng I ey (upy k), fun k => ?_⟩
  · -- x_i = x_j: then x_(i + p - j) = y
    have : it q.P y (i + (p - j)) = y := by
      rw [← it_add, e, it_add, show j + (p - j) = p by omega]
      exact p3
    exact p4 (i + (p - j)) (by omega) (by omega) this
  · obtain ⟨v, w, g, _, _, e3, _⟩ := I.edge _ _ ((upy (k + 1)).get (show k < k + 1 by omega))
    exact ⟨g, e3⟩
theorem Ring.norows {n : Nat} {bs : List B} {P : Int → Option Int} {x : Int} {p : Nat} (ok : Ok n bs) (R : Ring n bs P x p) (k : Nat) : ¬ ∀ x : Int, -1 ≤ x → x < n → lrow bs (k + 1) x = lrow bs k x := fun h => by
  have hb := lrow_still ok h
  have : ∀ m, wt (gaps bs) P x m ≤ lrow bs k x - lrow bs k (it P x m) := by
    intro m
    induction m with
    | zero => simp [wt, it]
    | succ m ih =>
      obtain ⟨g, e⟩ := R.gap m
      have := hb _ (gaps_of e)
      show wt (gaps bs) P x m + (gaps bs (it P x (m + 1)) (it P x m)).getD 0 ≤ _
      rw [e]
      simp only [Option.getD_some]
      dsimp only at this
      omega
  have h1 := this p
  rw [R.back] at h1
  have := R.sum
  omega
end Bd

end

section
set_option maxHeartbeats 4000000
namespace Lk74
open Mi MiL Bd
def bav (b : B) : AV := .tup [.int b.1, .int b.2.1, .int b.2.2]
def bsv (bs : List B) : AV := .tup (bs.map bav)
def oav : Option Int → AV
  | none => .non
  | some v => .int v
@[simp] theorem oav_none : oav none = .non := rfl
@[simp] theorem oav_some (v : Int) : oav (some v) = .int v := rfl
/-- the dicts hold the starts and the parents -/
structure Rl (n m : Nat) (q : Q) (sk pk : KVs) : Prop where
  s : ∀ x : Int, -1 ≤ x → x < n → look sk (.int x) = some (oav (q.S x))
  p : ∀ x : Int, look pk (.int x) = (q.P x).map AV.int
  ks : keysOk sk
  kp : keysOk pk
  ls : sk.length ≤ m
  lp : pk.length ≤ m
theorem Rl.mono {n m m' : Nat} {q : Q} {sk pk : KVs} (r : Rl n m q sk pk) (h : m ≤ m') : Rl n m' q sk pk := ⟨r.s, r.p, r.ks, r.kp, Nat.le_trans r.ls h, Nat.le_trans r.lp h⟩
theorem Rl.fresh {n m : Nat} {q : Q} {sk pk : KVs} (r : Rl n m q sk pk) : Rl n m (fresh q) sk pk := ⟨r.s, r.p, r.ks, r.kp, r.ls, r.lp⟩
theorem isKey_int (x : Int) : (AV.int x).isKey = true := rfl
theorem eqv_int (x y : Int) : ((AV.int x).eqv (.int y) = true) = (x = y) := by simp [AV.eqv]
theorem Rl.set {n m : Nat} {q : Q} {sk pk : KVs} (r : Rl n m q sk pk) (f s u : Int) : Rl n (m + 1) (q.set f s u) (put sk (.int s) (.int u)) (put pk (.int s) (.int f)) := by
  refine ⟨fun x h1 h2 => ?_, fun x => ?_, put_keys r.ks rfl, put_keys r.kp rfl, Nat.le_trans (put_len _ _ _) (by have := r.ls; omega), Nat.le_trans (put_len _ _ _) (by have := r.lp; omega)⟩
  · rw [look_put r.ks rfl rfl]
    simp only [eqv_int]
    show _ = some (oav (ups q.S s (some u) x))
    by_cases h : s = x
    · subst h
      rw [if_pos rfl, ups_same]
      rfl
    · rw [if_neg h, ups_ne (Ne.symm h)]
      exact r.s x h1 h2
  · rw [look_put r.kp rfl rfl]
    simp only [eqv_int]
    show _ = (ups q.P s (some f) x).map AV.int
    by_cases h : s = x
    · subst h
      rw [if_pos rfl, ups_same]
      rfl
    · rw [if_neg h, ups_ne (Ne.symm h)]
      exact r.p x
def In (n : Nat) (b : B) : Prop := -1 ≤ b.1 ∧ b.1 < n ∧ -1 ≤ b.2.1 ∧ b.2.1 < n
theorem pass_step {n m : Nat} {q : Q} {sk pk : KVs} (r : Rl n m q sk pk) (hm : m + 1 < 16777216) {b : B} (hb : In n b) {v : AV} {h : AH} {o7 : Option AV} :
    ∃ sk' pk' o7', s_pass_over_0 [some v, some (.cel h.length), some (.cel (h.length + 1)), some (oav q.r), some (.int b.1), some (.int b.2.1), some (.int b.2.2), o7] (h ++ [.dic false sk, .dic false pk]) =
      .nx [some v, some (.cel h.length), some (.cel (h.length + 1)), some (oav (step q b).r), some (.int b.1), some (.int b.2.1), some (.int b.2.2), o7'] (h ++ [.dic false sk', .dic false pk']) ∧ Rl n (m + 1) (step q b) sk' pk' := by
  obtain ⟨f, s, g⟩ := b
  have e1 := r.s f hb.1 hb.2.1
  have e2 := r.s s hb.2.2.1 hb.2.2.2
  have l1 : sk.length < 16777216 := by have := r.ls; omega
  have l2 : pk.length < 16777216 := by have := r.lp; omega
  cases hf : q.S f with
  | none =>
    rw [hf] at e1
    have hst : step q (f, s, g) = q := by simp [step, hf]
    rw [hst]
    refine ⟨sk, pk, o7, ?_, r.mono (by omega)⟩
    simp [s_pass_over_0, keyFor, AV.key1, e1, AV.isN]
  | some v1 =>
    rw [hf] at e1
    cases hs : q.S s with
    | none =>
      rw [hs] at e2
      have hst : step q (f, s, g) = q.set f s (v1 + g) := by simp [step, hf, hs]
      rw [hst]
      refine ⟨put sk (.int s) (.int (v1 + g)), put pk (.int s) (.int f), some (.int (v1 + g)), ?_, r.set f s (v1 + g)⟩
      simp [s_pass_over_0, keyFor, AV.key1, e1, e2, AV.isN, l1, l2]
      rfl
    | some w =>
      rw [hs] at e2
      by_cases hw : w < v1 + g
      · have hst : step q (f, s, g) = q.set f s (v1 + g) := by simp [step, hf, hs, hw]
        rw [hst]
        refine ⟨put sk (.int s) (.int (v1 + g)), put pk (.int s) (.int f), some (.int (v1 + g)), ?_, r.set f s (v1 + g)⟩
        simp [s_pass_over_0, keyFor, AV.key1, e1, e2, AV.isN, l1, l2, hw]
        rfl
      · have hst : step q (f, s, g) = q := by simp [step, hf, hs, hw]
        rw [hst]
        refine ⟨sk, pk, some (.int (v1 + g)), ?_, r.mono (by omega)⟩
        simp [s_pass_over_0, keyFor, AV.key1, e1, e2, AV.isN, l1, l2, hw]
theorem pass_loop {n : Nat} {v : AV} {h : AH} : ∀ (l : List B) (m : Nat) (q : Q) (sk pk : KVs) (o4 o5 o6 o7 : Option AV), Rl n m q sk pk → m + l.length < 16777216 → (∀ b ∈ l, In n b) →
    ∃ sk' pk' o4' o5' o6' o7', forL (gTp [gNm 4, gNm 5, gNm 6]) s_pass_over_0 (l.map bav) [some v, some (.cel h.length), some (.cel (h.length + 1)), some (oav q.r), o4, o5, o6, o7] (h ++ [.dic false sk, .dic false pk]) =
      .nx [some v, some (.cel h.length), some (.cel (h.length + 1)), some (oav (l.foldl step q).r), o4', o5', o6', o7'] (h ++ [.dic false sk', .dic false pk']) ∧ Rl n (m + l.length) (l.foldl step q) sk' pk'
  | [], m, q, sk, pk, o4, o5, o6, o7, r, _, _ => ⟨sk, pk, o4, o5, o6, o7, rfl, r⟩
  | b :: l, m, q, sk, pk, o4, o5, o6, o7, r, hm, hb => by
    simp only [List.length_cons] at hm
    obtain ⟨sk1, pk1, p7, e1, r1⟩ := pass_step r (by omega) (hb b (by simp)) (v := v) (h := h) (o7 := o7)
    obtain ⟨sk2, pk2, o4', o5', o6', o7', e2, r2⟩ := pass_loop l (m + 1) (step q b) sk1 pk1 (some (.int b.1)) (some (.int b.2.1)) (some (.int b.2.2)) p7 r1 (by omega) fun x hx => hb x (List.mem_cons_of_mem _ hx)
    refine ⟨sk2, pk2, o4', o5', o6', o7', ?_, by simp only [List.length_cons]; rw [show m + (l.length + 1) = m + 1 + l.length by omega]; exact r2⟩
    rw [List.map_cons]
    unfold forL
    have e0 : gTp [gNm 4, gNm 5, gNm 6] (bav b) [some v, some (.cel h.length), some (.cel (h.length + 1)), some (oav q.r), o4, o5, o6, o7] (h ++ [.dic false sk, .dic false pk]) = some ([some v, some (.cel h.length), some (.cel (h.length + 1)), some (oav q.r), some (.int b.1), some (.int b.2.1), some (.int b.2.2), o7], h ++ [.dic false sk, .dic false pk]) := by
      simp [bav]
    rw [e0]
    dsimp only
    rw [e1]
    exact e2
theorem pass_ok {n m : Nat} {bs : List B} {q : Q} {sk pk : KVs} {h : AH} (r : Rl n m q sk pk) (hm : m + bs.length < 16777216) (hb : ∀ b ∈ bs, In n b) :
    ∃ sk' pk', m_pass_over [bsv bs, .cel h.length, .cel (h.length + 1)] (h ++ [.dic false sk, .dic false pk]) = .ok (oav (pass bs q).r) (h ++ [.dic false sk', .dic false pk']) ∧ Rl n (m + bs.length) (pass bs q) sk' pk' := by
  obtain ⟨sk', pk', o4', o5', o6', o7', e, r'⟩ := pass_loop (v := bsv bs) (h := h) bs m (fresh q) sk pk none none none none r.fresh hm hb
  refine ⟨sk', pk', def_rt rfl ?_, r'⟩
  show sSeq _ _ [some (bsv bs), some (.cel h.length), some (.cel (h.length + 1)), none, none, none, none, none] _ = _
  rw [seq_nx (σ1 := [some (bsv bs), some (.cel h.length), some (.cel (h.length + 1)), some .non, none, none, none, none]) (h1 := h ++ [.dic false sk, .dic false pk]) (by simp)]
  rw [seq_nx (for_seq (h1 := h ++ [.dic false sk, .dic false pk]) (xs := bs.map bav) (by simp [bsv]) e)]
  simp
  rfl
/-! ### chains -/
theorem getL {n m : Nat} {q : Q} {sk pk : KVs} (r : Rl n m q sk pk) {x y : Int} (h : q.P x = some y) : look pk (.int x) = some (.int y) := by rw [r.p, h]; rfl
def itL (P : Int → Option Int) (a : Int) (k : Nat) : List AV := (List.range k).map fun i => AV.int (it P a i)
theorem itL_succ (P : Int → Option Int) (a : Int) (k : Nat) : itL P a (k + 1) = itL P a k ++ [.int (it P a k)] := by
  unfold itL
  rw [List.range_succ, List.map_append]
  rfl
@[simp] theorem itL_len (P : Int → Option Int) (a : Int) (k : Nat) : (itL P a k).length = k := by simp [itL]
theorem atI_end {xs : List AV} {x : AV} : atI (xs ++ [x]) (-1) = some x := by
  unfold atI atN
  rw [if_neg (by decide), if_pos (by simp; omega)]
  have : (-1 + ((xs ++ [x]).length : Int)).toNat = xs.length := by simp; omega
  simp only [Option.bind_some]
  rw [this]
  simp
theorem chain_ok {n m : Nat} {q : Q} {sk pk : KVs} {h u : AH} (r : Rl n m q sk pk) {a : Int} {k : Nat} (hk : k ≤ n) (hn : n ≤ 1000) (up : Up q.P a k) (e : it q.P a k = -1) (ne : ∀ i, i < k → it q.P a i ≠ -1) :
    m_chain_to [.cel (h.length + 1), .int a, .int n] (h ++ .dic false sk :: .dic false pk :: u) = .ok (.tup (itL q.P a (k + 1)).reverse) (h ++ .dic false sk :: .dic false pk :: (u ++ [.lst (itL q.P a (k + 1))])) := by
  have hl : (h ++ .dic false sk :: .dic false pk :: u).length = h.length + u.length + 2 := by simp; omega
  have hget : ∀ x, (h ++ .dic false sk :: .dic false pk :: (u ++ [.lst x]))[h.length + u.length + 2]? = some (.lst x) := fun x => by
    rw [List.getElem?_append_right (by omega), show h.length + u.length + 2 - h.length = u.length + 1 + 1 by omega, List.getElem?_cons_succ, List.getElem?_cons_succ]
    simp
  have hset : ∀ x y, (h ++ .dic false sk :: .dic false pk :: (u ++ [HC.lst x])).set (h.length + u.length + 2) (.lst y) = h ++ .dic false sk :: .dic false pk :: (u ++ [.lst y]) := fun x y => by
    rw [List.set_append_right _ _ (by omega), show h.length + u.length + 2 - h.length = u.length + 1 + 1 by omega, List.set_cons_succ, List.set_cons_succ]
    simp
  have hp : ∀ x, (h ++ .dic false sk :: .dic false pk :: x)[h.length + 1]? = some (HC.dic false pk) := fun x => by simp
  obtain ⟨σ', h', e1, rfl, rfl⟩ := whileF_run (c := t_chain_to_0) (b := s_chain_to_0) (fun i σ h' => σ = [some (.cel (h.length + 1)), some (.int a), some (.int n), some (.cel (h.length + u.length + 2))] ∧ h' = h ++ .dic false sk :: .dic false pk :: (u ++ [.lst (itL q.P a (i + 1))]))
    (fun σ h' => σ = [some (.cel (h.length + 1)), some (.int a), some (.int n), some (.cel (h.length + u.length + 2))] ∧ h' = h ++ .dic false sk :: .dic false pk :: (u ++ [.lst (itL q.P a (k + 1))])) k
    (fun i σ h' hi ⟨e1, e2⟩ => by
      subst e1 e2
      have hne := ne i hi
      have hpi := getL r (up.get hi)
      have hlen : i + 1 ≤ n + 1 := by omega
      have hlen2 : i + 1 < 16777216 := by omega
      refine ⟨h ++ .dic false sk :: .dic false pk :: (u ++ [.lst (itL q.P a (i + 1))]), _, _, ?_, .inl ?_, rfl, rfl⟩
      · have e2 : (((i : Int) + 1 ≤ (n : Int) + 1)) := by omega
        rw [itL_succ]
        simp [t_chain_to_0, hget, atI_end, hne]
        omega
      · rw [itL_succ q.P a (i + 1)]
        rw [itL_succ q.P a i]
        simp [s_chain_to_0, hget, hset, hp, atI_end, keyFor, AV.key1, hpi, tyA, hlen2])
    (fun σ h' ⟨e1, e2⟩ => by
      subst e1 e2
      refine ⟨_, ?_, rfl, rfl⟩
      rw [itL_succ]
      simp [t_chain_to_0, hget, atI_end, e])
    1000000 0 [some (.cel (h.length + 1)), some (.int a), some (.int n), some (.cel (h.length + u.length + 2))] (h ++ .dic false sk :: .dic false pk :: (u ++ [.lst [.int a]])) (by omega) (by omega) ⟨rfl, rfl⟩
  refine def_rt rfl ?_
  show sSeq _ _ [some (.cel (h.length + 1)), some (.int a), some (.int n), none] _ = _
  rw [seq_nx (σ1 := [some (.cel (h.length + 1)), some (.int a), some (.int n), some (.cel (h.length + u.length + 2))]) (h1 := h ++ .dic false sk :: .dic false pk :: (u ++ [.lst [.int a]])) (by simp; omega)]
  rw [seq_nx (show sWhile 1000000 _ _ _ _ = _ from e1)]
  simp [z_revC (hget _)]
theorem ring_ok {n m : Nat} {bs : List B} {q : Q} {sk pk : KVs} {h : AH} (r : Rl n m q sk pk) (hn : n ≤ 1000) {x y : Int} {p : Nat} (up : Up q.P x (n + 2)) (hy : it q.P x (n + 2) = y) (R : Ring n bs q.P y p) :
    ∃ u, m_ring_from [.cel (h.length + 1), .int x, .int n] (h ++ [.dic false sk, .dic false pk]) = .ok (.tup (itL q.P y p).reverse) (h ++ .dic false sk :: .dic false pk :: u) := by
  obtain ⟨σ1, h1, e1, ⟨o, rfl⟩, rfl⟩ := forL_inv (g := gNm 3) (b := s_ring_from_0) (fun i σ h' => (∃ o, σ = [some (.cel (h.length + 1)), some (.int (it q.P x i)), some (.int n), o, none, none]) ∧ h' = h ++ [.dic false sk, .dic false pk])
    (rng 0 (n + 2)) 0 [some (.cel (h.length + 1)), some (.int x), some (.int n), none, none, none] (h ++ [.dic false sk, .dic false pk]) ⟨⟨none, rfl⟩, rfl⟩
    (fun i z σ h' hz ⟨⟨o, e1⟩, e2⟩ => by
      subst e1 e2
      obtain ⟨hi, rfl⟩ := rng_get hz
      rw [Nat.zero_add]
      have hpi := getL r (up.get hi)
      refine ⟨_, _, _, _, rfl, .inl ?_, ⟨some (.int (0 + (i : Int))), rfl⟩, rfl⟩
      simp [s_ring_from_0, keyFor, AV.key1, hpi])
  rw [Nat.zero_add, rng_len, hy] at e1
  have hp1 := R.pos
  have hget : ∀ x, (h ++ .dic false sk :: .dic false pk :: [.lst x])[h.length + 2]? = some (HC.lst x) := fun x => by
    rw [List.getElem?_append_right (by omega), show h.length + 2 - h.length = 2 by omega]
    rfl
  have hset : ∀ x y, (h ++ .dic false sk :: .dic false pk :: [HC.lst x]).set (h.length + 2) (.lst y) = h ++ .dic false sk :: .dic false pk :: [.lst y] := fun x y => by
    rw [List.set_append_right _ _ (by omega), show h.length + 2 - h.length = 2 by omega]
    rfl
  have hp : ∀ x, (h ++ .dic false sk :: .dic false pk :: x)[h.length + 1]? = some (HC.dic false pk) := fun x => by simp
  obtain ⟨σ2, h2, e2, rfl, rfl⟩ := whileF_run (c := t_ring_from_0) (b := s_ring_from_1) (fun i σ h' => σ = [some (.cel (h.length + 1)), some (.int y), some (.int n), o, some (.cel (h.length + 2)), some (.int (it q.P y (i + 1)))] ∧ h' = h ++ .dic false sk :: .dic false pk :: [.lst (itL q.P y (i + 1))])
    (fun σ h' => σ = [some (.cel (h.length + 1)), some (.int y), some (.int n), o, some (.cel (h.length + 2)), some (.int y)] ∧ h' = h ++ .dic false sk :: .dic false pk :: [.lst (itL q.P y p)]) (p - 1)
    (fun i σ h' hi ⟨e1, e2⟩ => by
      subst e1 e2
      have hne : ¬ (it q.P y (i + 1) = y) := fun z => R.ne 0 (i + 1) (by omega) (by omega) z.symm
      have hpi := getL r ((R.up (i + 2)).get (show i + 1 < i + 2 by omega))
      have few := R.few
      have hlen2 : i + 1 < 16777216 := by omega
      refine ⟨h ++ .dic false sk :: .dic false pk :: [.lst (itL q.P y (i + 1))], _, _, ?_, .inl ?_, rfl, rfl⟩
      · simp [t_ring_from_0, hget, hne]
        try omega
      · rw [itL_succ q.P y (i + 1)]
        simp [s_ring_from_1, hget, hset, hp, keyFor, AV.key1, hpi, tyA, hlen2])
    (fun σ h' ⟨e1, e2⟩ => by
      subst e1 e2
      have e : p - 1 + 1 = p := by omega
      rw [e, R.back]
      refine ⟨h ++ .dic false sk :: .dic false pk :: [.lst (itL q.P y p)], ?_, rfl, rfl⟩
      simp [t_ring_from_0])
    1000000 0 [some (.cel (h.length + 1)), some (.int y), some (.int n), o, some (.cel (h.length + 2)), some (.int (it q.P y 1))] (h ++ .dic false sk :: .dic false pk :: [.lst [.int y]]) (by omega) (by have := R.few; omega) ⟨rfl, rfl⟩
  have hp0 := getL r ((R.up 1).get (show 0 < 1 by omega))
  have hp0 : look pk (.int y) = some (.int (it q.P y 1)) := hp0
  have hB : inBig ((n : Int) + 2) = true := inBig_of (by omega) (by omega)
  have ht : ((n : Int) + 2).toNat = n + 2 := rfl
  refine ⟨[.lst (itL q.P y p)], def_rt rfl ?_⟩
  show sSeq _ _ [some (.cel (h.length + 1)), some (.int x), some (.int n), none, none, none] _ = _
  rw [seq_nx (for_seq (h1 := h ++ [.dic false sk, .dic false pk]) (xs := rng 0 (n + 2)) (by simp [hB, ht]) e1)]
  rw [seq_nx (σ1 := [some (.cel (h.length + 1)), some (.int y), some (.int n), o, some (.cel (h.length + 2)), none]) (h1 := h ++ .dic false sk :: .dic false pk :: [.lst [.int y]]) (by simp)]
  rw [seq_nx (σ1 := [some (.cel (h.length + 1)), some (.int y), some (.int n), o, some (.cel (h.length + 2)), some (.int (it q.P y 1))]) (h1 := h ++ .dic false sk :: .dic false pk :: [.lst [.int y]]) (by simp [hp, keyFor, AV.key1, hp0])]
  rw [seq_nx (show sWhile 1000000 _ _ _ _ = _ from e2)]
  simp [z_revC (hget _)]
/-! ### starts_of -/
def initK (k : Nat) : KVs := (AV.int (-1), AV.int 0) :: (List.range k).map fun (i : Nat) => (AV.int (i : Int), AV.non)
theorem initK_succ (k : Nat) : put (initK k) (.int k) .non = initK (k + 1) := by
  have : (initK k).any (fun kv => kv.1.eqv (.int k)) = false := by
    rw [List.any_eq_false]
    intro kv hkv
    unfold initK at hkv
    rcases List.mem_cons.mp hkv with rfl | hkv
    · simp [AV.eqv]
      try omega
    · obtain ⟨i, hi, rfl⟩ := List.mem_map.mp hkv
      rw [List.mem_range] at hi
      simp [AV.eqv]
      omega
  unfold put
  rw [this]
  simp only [Bool.false_eq_true, if_false]
  unfold initK
  rw [List.range_succ, List.map_append]
  rfl
theorem initK_len (k : Nat) : (initK k).length = k + 1 := by simp [initK]
theorem initK_look (x : Int) : ∀ (k : Nat), -1 ≤ x → x < k → look (initK k) (.int x) = some (oav (q0.S x)) := by
  have key1 : ∀ k, keysOk (initK k) := fun k kv hkv => by
    unfold initK at hkv
    rcases List.mem_cons.mp hkv with rfl | hkv
    · rfl
    · obtain ⟨i, hi, rfl⟩ := List.mem_map.mp hkv
      rfl
  intro k
  induction k with
  | zero =>
    intro h1 h2
    have : x = -1 := by omega
    subst this
    rfl
  | succ k ih =>
    intro h1 h2
    rw [← initK_succ, look_put (key1 k) rfl rfl]
    simp only [eqv_int]
    by_cases h : (k : Int) = x
    · rw [if_pos h]
      have : ¬ (x = -1) := by omega
      simp [q0, this]
    · rw [if_neg h]
      exact ih h1 (by omega)
theorem initK_keys (k : Nat) : keysOk (initK k) := fun kv hkv => by
  unfold initK at hkv
  rcases List.mem_cons.mp hkv with rfl | hkv
  · rfl
  · obtain ⟨i, hi, rfl⟩ := List.mem_map.mp hkv
    rfl
theorem rl0 (n : Nat) : Rl n (n + 1) q0 (initK n) [] := ⟨fun x h1 h2 => initK_look x n h1 h2, fun x => rfl, initK_keys n, fun kv h => (nomatch h), by rw [initK_len]; omega, by simp⟩
def timesV {n : Nat} {bs : List B} {q : Q} (st : Still n bs q) : AV := .tup ((List.range n).map fun (i : Nat) => AV.int (st.T i))
/-- the chain of a step: the parents up to the beginning, turned about -/
structure ChainV (n : Nat) (bs : List B) {q : Q} (st : Still n bs q) (i : Nat) (v : AV) : Prop where
  ex : ∃ k, k ≤ n ∧ Up q.P i k ∧ it q.P i k = -1 ∧ wt (gaps bs) q.P i k = st.T i ∧ v = .tup (itL q.P i (k + 1)).reverse
inductive Told (n : Nat) (bs : List B) : AV → Prop
  | starts {q : Q} (st : Still n bs q) (f : Nat → AV) (hf : ∀ i, i < n → ChainV n bs st i (f i)) : Told n bs (.tup [.str [115, 116, 97, 114, 116, 115], timesV st, .tup ((List.range n).map f)])
  | ring {P : Int → Option Int} {y : Int} {p : Nat} (R : Ring n bs P y p) : Told n bs (.tup [.str [114, 105, 110, 103], .tup (itL P y p).reverse])
end Lk74

end

section
set_option maxHeartbeats 4000000
namespace Lk74
open Mi MiL Bd
/-- the last turn: nothing rose -/
theorem last_ok {n M : Nat} {bs : List B} {Q0 : Q} {sk pk sk' pk' : KVs} {h : AH} {o o5 o6 o7 : Option AV} (hn : n ≤ 100) (st : Still n bs Q0) (rs : Rl n M Q0 sk' pk')
    (e : m_pass_over [bsv bs, .cel h.length, .cel (h.length + 1)] (h ++ [.dic false sk, .dic false pk]) = .ok .non (h ++ [.dic false sk', .dic false pk'])) :
    ∃ u v, s_starts_of_1 [some (.int n), some (bsv bs), some (.cel h.length), some (.cel (h.length + 1)), o, o5, o6, o7] (h ++ [.dic false sk, .dic false pk]) = .rt v (h ++ u) ∧ Told n bs v := by
  have hB : inBig (n : Int) = true := inBig_of (by omega) (by omega)
  -- the times
  have c1 := lcL_rng (g := gNm 4) (t := tYes) (e := e_starts_of_0) (σ := [some (.int n), some (bsv bs), some (.cel h.length), some (.cel (h.length + 1)), none, some .non, o6, o7]) (h := h ++ [.dic false sk', .dic false pk'])
    (fun i => .int (st.T i)) n (by simp; omega) (fun j hj => by
      refine ⟨_, rfl, rfl, ?_⟩
      have := rs.s j (by omega) (by omega)
      rw [st.get (by omega) (by omega)] at this
      simp [e_starts_of_0, keyFor, AV.key1, this])
  -- the chains
  have chains : ∀ j : Nat, j < n → ∃ k, k ≤ n ∧ Up Q0.P j k ∧ it Q0.P j k = -1 ∧ wt (gaps bs) Q0.P j k = st.T j ∧ ∀ i, i < k → it Q0.P j i ≠ -1 := fun j hj => st.chain (st.get (by omega) (by omega))
  obtain ⟨K, hK⟩ : ∃ K : Nat → Nat, ∀ j : Nat, j < n → K j ≤ n ∧ Up Q0.P j (K j) ∧ it Q0.P j (K j) = -1 ∧ wt (gaps bs) Q0.P j (K j) = st.T j ∧ ∀ i, i < K j → it Q0.P j i ≠ -1 := by
    refine ⟨fun j => if hj : j < n then (chains j hj).choose else 0, fun j hj => ?_⟩
    dsimp only
    rw [dif_pos hj]
    exact (chains j hj).choose_spec
  obtain ⟨u', c2⟩ := lcL_rngG (g := gNm 4) (t := tYes) (e := e_starts_of_1) (σ := [some (.int n), some (bsv bs), some (.cel h.length), some (.cel (h.length + 1)), none, some .non, o6, some (timesV st)]) (h0 := h ++ [.dic false sk', .dic false pk'])
    (fun j => .tup (itL Q0.P j (K j + 1)).reverse) n (by simp; omega) (fun j hj u => by
      obtain ⟨k1, k2, k3, k4, k5⟩ := hK j hj
      have := chain_ok (h := h) (u := u) rs k1 (by omega) k2 k3 k5
      refine ⟨[some (.int n), some (bsv bs), some (.cel h.length), some (.cel (h.length + 1)), some (.int j), some .non, o6, some (timesV st)], u ++ [.lst (itL Q0.P j (K j + 1))], by simp, rfl, ?_⟩
      simp [e_starts_of_1, this])
  have tld := Told.starts (bs := bs) st (fun j => .tup (itL Q0.P j (K j + 1)).reverse) fun j hj => by
    obtain ⟨k1, k2, k3, k4, k5⟩ := hK j hj
    exact ⟨K j, k1, k2, k3, k4, rfl⟩
  refine ⟨[.dic false sk', .dic false pk'] ++ u', _, ?_, tld⟩
  rw [← List.append_assoc]
  generalize hC : (List.range n).map (fun (j : Nat) => AV.tup (itL Q0.P (j : Int) (K j + 1)).reverse) = C at c2
  have hT : AV.tup ((List.range n).map fun (i : Nat) => AV.int (st.T i)) = timesV st := rfl
  generalize (List.range n).map (fun (i : Nat) => AV.int (st.T i)) = TT at c1 hT
  generalize timesV st = TV at hT c2
  generalize bsv bs = bv at *
  subst hT
  unfold s_starts_of_1
  rw [seq_nx (σ1 := [some (.int n), some bv, some (.cel h.length), some (.cel (h.length + 1)), o, some .non, o6, o7]) (h1 := h ++ [.dic false sk', .dic false pk']) (by simp [e])]
  have ht : tB (eOp1 oIsN (eVar 5)) [some (.int n), some bv, some (.cel h.length), some (.cel (h.length + 1)), o, some .non, o6, o7] (h ++ [.dic false sk', .dic false pk']) = .ok true (h ++ [.dic false sk', .dic false pk']) := by simp [AV.isN]
  rw [if_t ht]
  rw [seq_nx (σ1 := [some (.int n), some bv, some (.cel h.length), some (.cel (h.length + 1)), o, some .non, o6, some (.tup TT)]) (h1 := h ++ [.dic false sk', .dic false pk']) (by simp [hB, wipe, c1])]
  simp [hB, wipe, c2]
theorem starts_ok {n : Nat} {bs : List B} (hn : n ≤ 100) (hl : bs.length ≤ 1000) (ok : Ok n bs) (h : AH) : ∃ u v, m_starts_of [.int n, bsv bs] h = .ok v (h ++ u) ∧ Told n bs v := by
  have hB : inBig (n : Int) = true := inBig_of (by omega) (by omega)
  have hB2 : inBig ((n : Int) + 2) = true := inBig_of (by omega) (by omega)
  have ht : ((n : Int) + 2).toNat = n + 2 := rfl
  -- starts[step] = None
  obtain ⟨σ1, h1, e1, ⟨o, rfl⟩, rfl⟩ := forL_inv (g := gNm 4) (b := s_starts_of_0) (fun i σ h' => (∃ o, σ = [some (.int n), some (bsv bs), some (.cel h.length), some (.cel (h.length + 1)), o, none, none, none]) ∧ h' = h ++ [.dic false (initK i), .dic false []])
    (rng 0 n) 0 [some (.int n), some (bsv bs), some (.cel h.length), some (.cel (h.length + 1)), none, none, none, none] (h ++ [.dic false (initK 0), .dic false []]) ⟨⟨none, rfl⟩, rfl⟩
    (fun i z σ h' hz ⟨⟨o, e1⟩, e2⟩ => by
      subst e1 e2
      obtain ⟨hi, rfl⟩ := rng_get hz
      rw [Nat.zero_add, Int.zero_add]
      refine ⟨_, _, _, _, rfl, .inl ?_, ⟨some (.int (i : Int)), rfl⟩, rfl⟩
      have := initK_len i
      have hlt : (initK i).length < 16777216 := by omega
      simp [s_starts_of_0, keyFor, AV.key1, hlt, initK_succ])
  rw [Nat.zero_add, rng_len] at e1
  -- the passes
  have hin : ∀ b ∈ bs, In n b := ok.lo
  have main := forL_ret (g := gNm 6) (b := s_starts_of_1) (fun i σ h' => ∃ o5 o6 o7 sk pk, σ = [some (.int n), some (bsv bs), some (.cel h.length), some (.cel (h.length + 1)), o, some o5, o6, o7] ∧ h' = h ++ [.dic false sk, .dic false pk] ∧ Rl n (n + 1 + i * bs.length) (passes bs i q0) sk pk ∧ (0 < i → ∃ x, (passes bs i q0).r = some x ∧ o5 = .int x))
    (fun v h' => ∃ u, h' = h ++ u ∧ Told n bs v) (rng 0 (n + 2)) 0 [some (.int n), some (bsv bs), some (.cel h.length), some (.cel (h.length + 1)), o, some .non, none, none] (h ++ [.dic false (initK n), .dic false []])
    ⟨.non, none, none, initK n, [], rfl, rfl, by rw [Nat.zero_mul]; exact rl0 n, fun h => absurd h (by omega)⟩
    (fun i z σ h' hz ⟨o5, o6, o7, sk, pk, e1, e2, r, hr⟩ => by
      subst e1 e2
      obtain ⟨hi, rfl⟩ := rng_get hz
      rw [Nat.zero_add] at r hr ⊢
      have hle : i * bs.length ≤ 102 * 1000 := Nat.mul_le_mul (by omega) hl
      obtain ⟨sk', pk', e, r'⟩ := pass_ok (h := h) r (by omega) hin
      have r' : Rl n (n + 1 + (i + 1) * bs.length) (passes bs (i + 1) q0) sk' pk' := by
        rw [Nat.succ_mul, ← Nat.add_assoc]
        exact r'
      have e : m_pass_over [bsv bs, .cel h.length, .cel (h.length + 1)] (h ++ [.dic false sk, .dic false pk]) = .ok (oav (passes bs (i + 1) q0).r) (h ++ [.dic false sk', .dic false pk']) := e
      refine ⟨[some (.int n), some (bsv bs), some (.cel h.length), some (.cel (h.length + 1)), o, some o5, some (.int (0 + (i : Int))), o7], h ++ [.dic false sk, .dic false pk], rfl, ?_⟩
      obtain ⟨rr, hx⟩ : ∃ rr, (passes bs (i + 1) q0).r = rr := ⟨_, rfl⟩
      rw [hx] at e
      cases rr with
      | some x =>
        refine .inl ⟨[some (.int n), some (bsv bs), some (.cel h.length), some (.cel (h.length + 1)), o, some (.int x), some (.int (0 + (i : Int))), o7], h ++ [.dic false sk', .dic false pk'], .inl ?_, .int x, _, o7, sk', pk', rfl, rfl, r', fun _ => ⟨x, hx, rfl⟩⟩
        simp [s_starts_of_1, e, AV.isN]
      | none =>
        have hx' : (pass bs (passes bs i q0)).r = none := hx
        have st := still_of ok (inv_passes ok i) hx'
        have hq : passes bs (i + 1) q0 = fresh (passes bs i q0) := (pass_none hx').1
        have rs : Rl n (n + 1 + (i + 1) * bs.length) (passes bs i q0) sk' pk' := by
          rw [hq] at r'
          exact ⟨r'.s, r'.p, r'.ks, r'.kp, r'.ls, r'.lp⟩
        obtain ⟨u, v, e3, t⟩ := last_ok (o := o) (o5 := some o5) (o6 := some (.int (0 + (i : Int)))) (o7 := o7) hn st rs e
        exact .inr ⟨v, h ++ u, e3, u, rfl, t⟩)
  rw [Nat.zero_add, rng_len] at main
  rcases main with ⟨σ', h', e2, o5, o6, o7, sk, pk, rfl, rfl, r, hr⟩ | ⟨v, h', e2, u, rfl, t⟩
  · obtain ⟨x, hx, rfl⟩ := hr (by omega)
    obtain ⟨up, p, R⟩ := ring_of ok hx
    obtain ⟨u, e3⟩ := ring_ok (h := h) r (by omega) up rfl R
    refine ⟨.dic false sk :: .dic false pk :: u, _, ?_, Told.ring R⟩
    refine def_rt rfl ?_
    show sSeq _ _ [some (.int n), some (bsv bs), none, none, none, none, none, none] _ = _
    rw [seq_nx (σ1 := [some (.int n), some (bsv bs), some (.cel h.length), none, none, none, none, none]) (h1 := h ++ [.dic false (initK 0)]) (by simp [eDsp, pairs, AV.key1, putAll, put, initK])]
    rw [seq_nx (σ1 := [some (.int n), some (bsv bs), some (.cel h.length), some (.cel (h.length + 1)), none, none, none, none]) (h1 := h ++ [.dic false (initK 0), .dic false []]) (by simp)]
    rw [seq_nx (for_seq (h1 := h ++ [.dic false (initK 0), .dic false []]) (xs := rng 0 n) (by simp [hB]) e1)]
    rw [seq_nx (σ1 := [some (.int n), some (bsv bs), some (.cel h.length), some (.cel (h.length + 1)), o, some .non, none, none]) (h1 := h ++ [.dic false (initK n), .dic false []]) (by simp)]
    rw [seq_nx (for_seq (h1 := h ++ [.dic false (initK n), .dic false []]) (xs := rng 0 (n + 2)) (by simp [hB2, ht]) e2)]
    simp [e3]
  · refine ⟨u, v, ?_, t⟩
    refine def_rt rfl ?_
    show sSeq _ _ [some (.int n), some (bsv bs), none, none, none, none, none, none] _ = _
    rw [seq_nx (σ1 := [some (.int n), some (bsv bs), some (.cel h.length), none, none, none, none, none]) (h1 := h ++ [.dic false (initK 0)]) (by simp [eDsp, pairs, AV.key1, putAll, put, initK])]
    rw [seq_nx (σ1 := [some (.int n), some (bsv bs), some (.cel h.length), some (.cel (h.length + 1)), none, none, none, none]) (h1 := h ++ [.dic false (initK 0), .dic false []]) (by simp)]
    rw [seq_nx (for_seq (h1 := h ++ [.dic false (initK 0), .dic false []]) (xs := rng 0 n) (by simp [hB]) e1)]
    rw [seq_nx (σ1 := [some (.int n), some (bsv bs), some (.cel h.length), some (.cel (h.length + 1)), o, some .non, none, none]) (h1 := h ++ [.dic false (initK n), .dic false []]) (by simp)]
    exact seq_rt (for_seq (h1 := h ++ [.dic false (initK n), .dic false []]) (xs := rng 0 (n + 2)) (by simp [hB2, ht]) e2)
end Lk74

end

section
set_option maxHeartbeats 4000000
namespace Lk74
open Mi MiL Bd
/-! ### the law's own rows -/
def rowL (n : Nat) (R : Int → Int) : List AV := (List.range (n + 1)).map fun (i : Nat) => AV.int (R ((i : Int) - 1))
theorem rowL_len (n : Nat) (R : Int → Int) : (rowL n R).length = n + 1 := by simp [rowL]
theorem rowL_at {n : Nat} {R : Int → Int} {x : Int} (h1 : -1 ≤ x) (h2 : x < n) : atI (rowL n R) (x + 1) = some (.int (R x)) := by
  rw [atI_of (by omega)]
  unfold rowL
  rw [rangeMap_get (by omega)]
  congr 3
  omega
theorem rowL_set {n : Nat} {L : Int → Int} {x v : Int} (h1 : -1 ≤ x) (h2 : x < n) : (rowL n L).set (x + 1).toNat (.int v) = rowL n (ups L x v) := by
  unfold rowL
  refine rangeMap_set (g := fun (i : Nat) => AV.int (ups L x v ((i : Int) - 1))) ?_ fun i hi hne => ?_
  · rw [show (((x + 1).toNat : Nat) : Int) - 1 = x by omega, ups_same]
  · rw [ups_ne (by omega)]
theorem atN_rowL {n : Nat} {x : Int} (h1 : -1 ≤ x) (h2 : x < n) : atN (n + 1) (x + 1) = some (x + 1).toNat := by
  unfold atN
  rw [if_pos (by omega), if_pos (by omega)]
theorem rowL_ints (n : Nat) (R : Int → Int) : rowL n R = ((List.range (n + 1)).map fun (i : Nat) => R ((i : Int) - 1)).map AV.int := by
  rw [List.map_map]
  rfl
def Stat (bs : List B) (n k : Nat) : Prop := ∀ x : Int, -1 ≤ x → x < n → lrow bs (k + 1) x = lrow bs k x
theorem rowL_eq {n : Nat} {R R' : Int → Int} : AV.eqvs (rowL n R) (rowL n R') = true ↔ ∀ x : Int, -1 ≤ x → x < n → R x = R' x := by
  rw [rowL_ints, rowL_ints, eqvs_ints, decide_eq_true_iff]
  constructor
  · intro h x h1 h2
    have : ((List.range (n + 1)).map fun (i : Nat) => R ((i : Int) - 1))[(x + 1).toNat]? = ((List.range (n + 1)).map fun (i : Nat) => R' ((i : Int) - 1))[(x + 1).toNat]? := by rw [h]
    rw [List.getElem?_map, List.getElem?_map, List.getElem?_range (by omega)] at this
    simp only [Option.map_some, Option.some.injEq] at this
    rw [show (((x + 1).toNat : Nat) : Int) - 1 = x by omega] at this
    exact this
  · intro h
    exact List.map_congr_left fun i hi => h _ (by omega) (by rw [List.mem_range] at hi; omega)
theorem row_step {n : Nat} {R : Int → Int} {w : AV} {h : AH} {b : B} (hb : In n b) {o0 o1 o3 o6 : Option AV} {L : Int → Int} (hw : ∀ u, lstOf (h ++ u) w = some (rowL n R)) :
    s__law_starts_0 [o0, o1, some w, o3, some (.cel h.length), some (bav b), o6] (h ++ [.lst (rowL n L)]) = .nx [o0, o1, some w, o3, some (.cel h.length), some (bav b), o6] (h ++ [.lst (rowL n (lstep R L b))]) := by
  obtain ⟨f, s, g⟩ := b
  obtain ⟨b1, b2, b3, b4⟩ := hb
  dsimp only at b1 b2 b3 b4
  have e1 := ix_lst (hw [.lst (rowL n L)]) (f + 1)
  rw [rowL_at b1 b2] at e1
  have e2 := rowL_at (n := n) (R := L) b3 b4
  have e3 := rowL_set (n := n) (L := L) (v := if R f + g > L s then R f + g else L s) b3 b4
  have e4 := atN_rowL b3 b4
  simp [s__law_starts_0, bav, e1, e2, rowL_len, e4, lstep]
  exact e3
theorem row_loop {n : Nat} {R : Int → Int} {w : AV} {h : AH} {o0 o1 o3 o6 : Option AV} (hw : ∀ u, lstOf (h ++ u) w = some (rowL n R)) : ∀ (l : List B) (L : Int → Int) (o5 : Option AV), (∀ b ∈ l, In n b) →
    ∃ o5', forL (gNm 5) s__law_starts_0 (l.map bav) [o0, o1, some w, o3, some (.cel h.length), o5, o6] (h ++ [.lst (rowL n L)]) = .nx [o0, o1, some w, o3, some (.cel h.length), o5', o6] (h ++ [.lst (rowL n (l.foldl (lstep R) L))])
  | [], L, o5, _ => ⟨o5, rfl⟩
  | b :: l, L, o5, hb => by
    obtain ⟨o5', e⟩ := row_loop hw l (lstep R L b) (some (bav b)) fun x hx => hb x (List.mem_cons_of_mem _ hx)
    refine ⟨o5', ?_⟩
    rw [List.map_cons]
    unfold forL
    rw [z_gNm]
    dsimp only
    show (match s__law_starts_0 [o0, o1, some w, o3, some (.cel h.length), some (bav b), o6] (h ++ [.lst (rowL n L)]) with
      | .nx σ2 h2 => forL (gNm 5) s__law_starts_0 (l.map bav) σ2 h2
      | .ct σ2 h2 => forL (gNm 5) s__law_starts_0 (l.map bav) σ2 h2
      | .bk σ2 h2 => .nx σ2 h2
      | r => r) = _
    rw [row_step (hb b (by simp)) hw]
    exact e
theorem rowL_tail (n : Nat) (R : Int → Int) : cut (rowL n R) (some 1) none = (List.range n).map fun (i : Nat) => AV.int (R i) := by
  rw [cut_from (by decide)]
  apply List.ext_getElem
  · simp [rowL]
  · intro i h1 h2
    simp [rowL]
theorem lawrows_ok {n : Nat} {bs : List B} (hn : n ≤ 100) (ok : Ok n bs) (h : AH) : ∃ u v, m__law_starts [.int n, bsv bs] h = .ok v (h ++ u) ∧
    ((∃ k, Stat bs n k ∧ v = .tup ((List.range n).map fun (i : Nat) => AV.int (lrow bs k i))) ∨ (v = .non ∧ ∀ k, k < n + 2 → ¬ Stat bs n k)) := by
  have hB1 : inBig ((n : Int) + 1) = true := inBig_of (by omega) (by omega)
  have hB2 : inBig ((n : Int) + 2) = true := inBig_of (by omega) (by omega)
  have ht1 : ((n : Int) + 1).toNat = n + 1 := rfl
  have ht : ((n : Int) + 2).toNat = n + 2 := rfl
  have hin : ∀ b ∈ bs, In n b := ok.lo
  have c1 := lcL_rng (g := gNm 6) (t := tYes) (e := e__law_starts_0) (σ := [some (.int n), some (bsv bs), none, none, none, none, none]) (h := h) (fun i => .int 0) (n + 1) (by simp; omega) (fun i hi => ⟨_, rfl, rfl, by simp [e__law_starts_0]⟩)
  have c1 : lcL (gNm 6) tYes e__law_starts_0 [some (.int n), some (bsv bs), none, none, none, none, none] (rng 0 (n + 1)) [] h = .ok (rowL n (lrow bs 0)) h := c1
  have main := forL_ret (g := gNm 3) (b := s__law_starts_1) (fun k σ h' => ∃ w o3 o4 o5 u, σ = [some (.int n), some (bsv bs), some w, o3, o4, o5, none] ∧ h' = h ++ u ∧ lstOf h' w = some (rowL n (lrow bs k)) ∧ ∀ j, j < k → ¬ Stat bs n j)
    (fun v h' => ∃ u k, h' = h ++ u ∧ Stat bs n k ∧ v = .tup ((List.range n).map fun (i : Nat) => AV.int (lrow bs k i))) (rng 0 (n + 2)) 0 [some (.int n), some (bsv bs), some (.lst (rowL n (lrow bs 0))), none, none, none, none] h
    ⟨_, none, none, none, [], rfl, by simp, rfl, fun j hj => absurd hj (by omega)⟩
    (fun k x σ h' hx ⟨w, o3, o4, o5, u, e1, e2, hw, hno⟩ => by
      subst e1 e2
      obtain ⟨hk, rfl⟩ := rng_get hx
      rw [Nat.zero_add] at hw hno ⊢
      refine ⟨[some (.int n), some (bsv bs), some w, some (.int (0 + (k : Int))), o4, o5, none], h ++ u, rfl, ?_⟩
      have hw' : ∀ u', lstOf (h ++ u ++ u') w = some (rowL n (lrow bs k)) := fun u' => lstOf_app hw
      obtain ⟨o5', e3⟩ := row_loop (o0 := some (.int n)) (o1 := some (bsv bs)) (o3 := some (.int (0 + (k : Int)))) (o6 := none) hw' bs (lrow bs k) o5 hin
      have e3 : forL (gNm 5) s__law_starts_0 (bs.map bav) [some (.int n), some (bsv bs), some w, some (.int (0 + (k : Int))), some (.cel (h ++ u).length), o5, none] (h ++ u ++ [.lst (rowL n (lrow bs k))]) = .nx [some (.int n), some (bsv bs), some w, some (.int (0 + (k : Int))), some (.cel (h ++ u).length), o5', none] (h ++ u ++ [.lst (rowL n (lrow bs (k + 1)))]) := e3
      have hL : lstOf (h ++ u ++ [.lst (rowL n (lrow bs (k + 1)))]) (.cel (h ++ u).length) = some (rowL n (lrow bs (k + 1))) := by
        simp only [lstOf, get_app0]
      have hc := eq_lst hL (hw' _) (by rw [rowL_ints]; exact fitss_ints _ _) (by rw [rowL_ints]; exact fitss_ints _ _)
      have hsq := seqOf_of hw
      have hsl := sl_lst (hw' [.lst (rowL n (lrow bs (k + 1)))]) (some 1) none
      rw [rowL_tail] at hsl
      by_cases hS : Stat bs n k
      · refine .inr ⟨.tup ((List.range n).map fun (i : Nat) => AV.int (lrow bs k i)), h ++ (u ++ [.lst (rowL n (lrow bs (k + 1)))]), ?_, _, k, rfl, hS, rfl⟩
        rw [rowL_eq.mpr hS] at hc
        unfold s__law_starts_1
        rw [seq_nx (σ1 := [some (.int n), some (bsv bs), some w, some (.int (0 + (k : Int))), some (.cel (h ++ u).length), o5, none]) (h1 := h ++ u ++ [.lst (rowL n (lrow bs k))]) (by simp [hsq])]
        rw [seq_nx (for_seq (h1 := h ++ u ++ [.lst (rowL n (lrow bs k))]) (xs := bs.map bav) (by simp [bsv]) e3)]
        rw [← List.append_assoc]
        refine seq_rt ?_
        rw [if_t (h1 := h ++ u ++ [.lst (rowL n (lrow bs (k + 1)))]) (by simp only [z_tB, z_eOp2, z_eVar]; simp only [List.getElem?_cons_succ, List.getElem?_cons_zero, Res.bind_ok, hc])]
        refine ret_ok ?_
        simp only [z_eCall, z_aCons, z_eSl, z_eVar, z_oAt, z_oNo, z_eC, z_aNil, List.getElem?_cons_succ, List.getElem?_cons_zero, Res.bind_ok, hsl, z_tupleL]
      · refine .inl ⟨[some (.int n), some (bsv bs), some (.cel (h ++ u).length), some (.int (0 + (k : Int))), some (.cel (h ++ u).length), o5', none], h ++ u ++ [.lst (rowL n (lrow bs (k + 1)))], .inl ?_, _, _, _, _, u ++ [.lst (rowL n (lrow bs (k + 1)))], rfl, by rw [List.append_assoc], hL, fun j hj => ?_⟩
        · have : AV.eqvs (rowL n (lrow bs (k + 1))) (rowL n (lrow bs k)) = false := by
            rw [Bool.eq_false_iff]
            exact fun z => hS (rowL_eq.mp z)
          rw [this] at hc
          unfold s__law_starts_1
          rw [seq_nx (σ1 := [some (.int n), some (bsv bs), some w, some (.int (0 + (k : Int))), some (.cel (h ++ u).length), o5, none]) (h1 := h ++ u ++ [.lst (rowL n (lrow bs k))]) (by simp [hsq])]
          rw [seq_nx (for_seq (h1 := h ++ u ++ [.lst (rowL n (lrow bs k))]) (xs := bs.map bav) (by simp [bsv]) e3)]
          rw [seq_nx (if_no (h1 := h ++ u ++ [.lst (rowL n (lrow bs (k + 1)))]) (by simp only [z_tB, z_eOp2, z_eVar]; simp only [List.getElem?_cons_succ, List.getElem?_cons_zero, Res.bind_ok, hc]))]
          simp
        · by_cases hjk : j = k
          · rw [hjk]
            exact hS
          · exact hno j (by omega))
  rw [Nat.zero_add, rng_len] at main
  rcases main with ⟨σ', h', e2, w, o3, o4, o5, u, rfl, rfl, hw, hno⟩ | ⟨v, h', e2, u, k, rfl, hS, rfl⟩
  · refine ⟨u, .non, ?_, .inr ⟨rfl, hno⟩⟩
    refine def_rt rfl ?_
    show sSeq _ _ [some (.int n), some (bsv bs), none, none, none, none, none] _ = _
    rw [seq_nx (σ1 := [some (.int n), some (bsv bs), some (.lst (rowL n (lrow bs 0))), none, none, none, none]) (h1 := h) (by simp [hB1, ht1, wipe, c1])]
    rw [seq_nx (for_seq (h1 := h) (xs := rng 0 (n + 2)) (by simp [hB2, ht]) e2)]
    simp
  · refine ⟨u, _, ?_, .inl ⟨k, hS, rfl⟩⟩
    refine def_rt rfl ?_
    show sSeq _ _ [some (.int n), some (bsv bs), none, none, none, none, none] _ = _
    rw [seq_nx (σ1 := [some (.int n), some (bsv bs), some (.lst (rowL n (lrow bs 0))), none, none, none, none]) (h1 := h) (by simp [hB1, ht1, wipe, c1])]
    exact seq_rt (for_seq (h1 := h) (xs := rng 0 (n + 2)) (by simp [hB2, ht]) e2)
/-! ### the greatest gaps -/
def kp (a b : Int) : AV := .tup [.int a, .int b]
theorem kp_key (a b : Int) : (kp a b).isKey = true := rfl
theorem kp_eqv (a b c d : Int) : ((kp a b).eqv (kp c d) = true) = (a = c ∧ b = d) := by simp [kp, AV.eqv, AV.eqvs]
structure Gd (G : Gp) (kvs : KVs) : Prop where
  at_ : ∀ a b, look kvs (kp a b) = (G a b).map AV.int
  keys : keysOk kvs
theorem Gd.put {G : Gp} {kvs : KVs} (g : Gd G kvs) (a b v : Int) : Gd (gset G a b v) (put kvs (kp a b) (.int v)) := by
  refine ⟨fun c d => ?_, put_keys g.keys rfl⟩
  rw [look_put g.keys rfl rfl]
  simp only [kp_eqv]
  unfold gset
  by_cases h : a = c ∧ b = d
  · rw [if_pos h, if_pos ⟨h.1.symm, h.2.symm⟩]
    rfl
  · rw [if_neg h, if_neg fun z => h ⟨z.1.symm, z.2.symm⟩]
    exact g.at_ c d
theorem gap_step {G : Gp} {kvs : KVs} (g : Gd G kvs) (b : B) {h : AH} {o0 o3 : Option AV} (hl : kvs.length < 16777216) :
    ∃ kvs' o3', s__law_gaps_0 [o0, some (.cel h.length), some (bav b), o3] (h ++ [.dic true kvs]) = .nx [o0, some (.cel h.length), some (bav b), o3'] (h ++ [.dic true kvs']) ∧ Gd (gstep G b) kvs' ∧ kvs'.length ≤ kvs.length + 1 := by
  obtain ⟨x, y, v⟩ := b
  have e := g.at_ x y
  unfold kp at e
  cases hG : G x y with
  | none =>
    rw [hG] at e
    have hst : gstep G (x, y, v) = gset G x y v := by simp [gstep, hG]
    rw [hst]
    refine ⟨put kvs (kp x y) (.int v), some (kp x y), ?_, g.put x y v, put_len _ _ _⟩
    simp [s__law_gaps_0, bav, oIn, keyFor, AV.keyT, AV.key1, e, hl, kp]
  | some w =>
    rw [hG] at e
    by_cases hw : w < v
    · have hst : gstep G (x, y, v) = gset G x y v := by simp [gstep, hG, hw]
      rw [hst]
      refine ⟨put kvs (kp x y) (.int v), some (kp x y), ?_, g.put x y v, put_len _ _ _⟩
      simp [s__law_gaps_0, bav, oIn, keyFor, AV.keyT, AV.key1, e, hl, kp, hw]
    · have hst : gstep G (x, y, v) = G := by simp [gstep, hG, hw]
      rw [hst]
      refine ⟨kvs, some (kp x y), ?_, g, by omega⟩
      simp [s__law_gaps_0, bav, oIn, keyFor, AV.keyT, AV.key1, e, hl, kp, hw]
theorem gap_loop {h : AH} {o0 : Option AV} : ∀ (l : List B) (G : Gp) (kvs : KVs) (o2 o3 : Option AV), Gd G kvs → kvs.length + l.length < 16777216 →
    ∃ kvs' o2' o3', forL (gNm 2) s__law_gaps_0 (l.map bav) [o0, some (.cel h.length), o2, o3] (h ++ [.dic true kvs]) = .nx [o0, some (.cel h.length), o2', o3'] (h ++ [.dic true kvs']) ∧ Gd (l.foldl gstep G) kvs'
  | [], G, kvs, o2, o3, g, _ => ⟨kvs, o2, o3, rfl, g⟩
  | b :: l, G, kvs, o2, o3, g, hl => by
    simp only [List.length_cons] at hl
    obtain ⟨k1, p3, e1, g1, l1⟩ := gap_step g b (h := h) (o0 := o0) (o3 := o3) (by omega)
    obtain ⟨k2, p2, q3, e2, g2⟩ := gap_loop l (gstep G b) k1 (some (bav b)) p3 g1 (by omega)
    refine ⟨k2, p2, q3, ?_, g2⟩
    rw [List.map_cons]
    unfold forL
    rw [z_gNm]
    dsimp only
    show (match s__law_gaps_0 [o0, some (.cel h.length), some (bav b), o3] (h ++ [.dic true kvs]) with
      | .nx σ2 h2 => forL (gNm 2) s__law_gaps_0 (l.map bav) σ2 h2
      | .ct σ2 h2 => forL (gNm 2) s__law_gaps_0 (l.map bav) σ2 h2
      | .bk σ2 h2 => .nx σ2 h2
      | r => r) = _
    rw [e1]
    exact e2
theorem gaps_ok {bs : List B} (hl : bs.length ≤ 1000) (h : AH) : ∃ kvs, m__law_gaps [bsv bs] h = .ok (.cel h.length) (h ++ [.dic true kvs]) ∧ Gd (gaps bs) kvs := by
  obtain ⟨kvs, o2, o3, e, g⟩ := gap_loop (h := h) (o0 := some (bsv bs)) bs (fun _ _ => none) [] none none ⟨fun a b => rfl, fun kv z => (nomatch z)⟩ (by simp; omega)
  refine ⟨kvs, def_rt rfl ?_, g⟩
  show sSeq _ _ [some (bsv bs), none, none, none] _ = _
  rw [seq_nx (σ1 := [some (bsv bs), some (.cel h.length), none, none]) (h1 := h ++ [.dic true []]) (by simp)]
  rw [seq_nx (for_seq (h1 := h ++ [.dic true []]) (xs := bs.map bav) (by simp [bsv]) e)]
  simp
/-! ### along a row -/
def wsum (G : Gp) (f : Nat → Int) : Nat → Int
  | 0 => 0
  | m + 1 => wsum G f m + (G (f m) (f (m + 1))).getD 0
def rowF (f : Nat → Int) (m : Nat) : List AV := (List.range m).map fun i => AV.int (f i)
theorem rowF_len (f : Nat → Int) (m : Nat) : (rowF f m).length = m := by simp [rowF]
theorem rowF_at {f : Nat → Int} {m i : Nat} (h : i < m) : atI (rowF f m) (i : Int) = some (.int (f i)) := by
  rw [atI_nat]
  exact rangeMap_get h
theorem along_ok {G : Gp} {kvs : KVs} (g : Gd G kvs) {h : AH} {a : Nat} (ha : h[a]? = some (.dic true kvs)) {f : Nat → Int} {m : Nat} (hm : m ≤ 1000) (hG : ∀ i, i < m → ∃ v, G (f i) (f (i + 1)) = some v) :
    m__law_along [.cel a, .tup (rowF f (m + 1))] h = .ok (.int (wsum G f m)) h := by
  obtain ⟨σ', h', e, ⟨o3, o4, rfl⟩, he⟩ := forL_inv (g := gNm 3) (b := s__law_along_0) (fun k σ h' => (∃ o3 o4, σ = [some (.cel a), some (.tup (rowF f (m + 1))), some (.int (wsum G f k)), o3, o4]) ∧ h' = h)
    (rng 1 m) 0 [some (.cel a), some (.tup (rowF f (m + 1))), some (.int 0), none, none] h ⟨⟨none, none, rfl⟩, rfl⟩ (fun i x σ h' hx ⟨⟨o3, o4, e1⟩, e2⟩ => by
      subst e1 e2
      obtain ⟨hi, rfl⟩ := rng_get hx
      rw [Nat.zero_add]
      obtain ⟨v, hv⟩ := hG i hi
      have e1 : atI (rowF f (m + 1)) (1 + (i : Int) - 1) = some (.int (f i)) := by
        rw [show 1 + (i : Int) - 1 = ((i : Nat) : Int) by omega]
        exact rowF_at (by omega)
      have e2 : atI (rowF f (m + 1)) (1 + (i : Int)) = some (.int (f (i + 1))) := by
        rw [show 1 + (i : Int) = ((i + 1 : Nat) : Int) by omega]
        exact rowF_at (by omega)
      have e3 := g.at_ (f i) (f (i + 1))
      rw [hv] at e3
      unfold kp at e3
      refine ⟨_, _, _, _, rfl, .inl ?_, ⟨some (.int (1 + (i : Int))), some (kp (f i) (f (i + 1))), rfl⟩, rfl⟩
      simp [s__law_along_0, e1, e2, oIn, ha, keyFor, AV.keyT, AV.key1, e3, kp, wsum, hv])
  rw [Nat.zero_add, rng_len, he] at e
  have hB : inBig ((m : Int) + 1) = true := inBig_of (by omega) (by omega)
  have hB1 : inBig (1 : Int) = true := inBig_of (by omega) (by omega)
  have ht : ((m : Int) + 1 - 1).toNat = m := by omega
  refine def_rt rfl ?_
  show sSeq _ _ [some (.cel a), some (.tup (rowF f (m + 1))), none, none, none] _ = _
  rw [seq_nx (σ1 := [some (.cel a), some (.tup (rowF f (m + 1))), some (.int 0), none, none]) (h1 := h) (by simp)]
  rw [seq_nx (for_seq (h1 := h) (xs := rng 1 m) (by simp [rowF_len, hB, hB1]) e)]
  simp
theorem steps_ok {n m : Nat} {f : Nat → Int} {h : AH} (hr : ∀ i, i < m + 1 → -1 ≤ f i ∧ f i < n) : m__law_is_steps [.int n, .tup (rowF f (m + 1))] h = .ok (.bl true) h := by
  have c := lcL_none (g := gNm 2) (t := t__law_is_steps_0) (e := e__law_is_steps_0) (σ := [some (.int n), some (.tup (rowF f (m + 1))), none]) (h := h) (rowF f (m + 1)) [] (fun x hx => by
    obtain ⟨i, hi, rfl⟩ := List.mem_map.mp hx
    have hr := hr i (List.mem_range.mp hi)
    refine ⟨_, rfl, ?_⟩
    have e := is_int_ok (.int (f i)) h ⟨0, rfl⟩
    simp [t__law_is_steps_0, e, isI, hr.1, hr.2])
  have hl : ¬ ((m : Int) + 1 = 0) := by omega
  simp [m__law_is_steps, start, isTy, rowF_len, wipe, c, hl]
theorem wsum_rev {G : Gp} {P : Int → Option Int} {y : Int} {K : Nat} {f : Nat → Int} (hf : ∀ i, i ≤ K → f i = it P y (K - i)) : ∀ m, m ≤ K → wsum G f m = wt G P y K - wt G P y (K - m)
  | 0, _ => by simp [wsum]
  | m + 1, h => by
    unfold wsum
    rw [wsum_rev hf m (by omega), hf m (by omega), hf (m + 1) h]
    have : wt G P y (K - m) = wt G P y (K - (m + 1)) + (G (it P y (K - m)) (it P y (K - (m + 1)))).getD 0 := by
      rw [show K - m = K - (m + 1) + 1 by omega]
      rfl
    omega
theorem itL_rev (P : Int → Option Int) (y : Int) (p : Nat) : (itL P y p).reverse = rowF (fun i => it P y (p - 1 - i)) p := rangeMap_rev (fun i => AV.int (it P y i)) p
/-- a step's chain is taken -/
theorem chainV_ok {n : Nat} {bs : List B} {q : Q} {st : Still n bs q} {i : Nat} {v : AV} (hi : i < n) (hn : n ≤ 100) (cv : ChainV n bs st i v) {kvs : KVs} (g : Gd (gaps bs) kvs) {h : AH} {a : Nat} (ha : h[a]? = some (.dic true kvs)) :
    m__law_is_chain [.int n, .cel a, v, .int i, .int (st.T i)] h = .ok (.bl true) h := by
  obtain ⟨k, hk, up, e1, e2, rfl⟩ := cv.ex
  rw [itL_rev]
  simp only [show k + 1 - 1 = k by omega]
  have hS := st.get (show (-1 : Int) ≤ i by omega) (by omega : (i : Int) < n)
  have s1 := steps_ok (n := n) (m := k) (f := fun j => it q.P i (k - j)) (h := h) fun j hj => up_rng st.inv hS (up.mono (by omega))
  have s2 := along_ok g ha (f := fun j => it q.P i (k - j)) (m := k) (by omega) fun j hj => by
    obtain ⟨v, w, gg, _, _, e3, _⟩ := st.inv.edge _ _ (up.get (show k - (j + 1) < k by omega))
    refine ⟨gg, ?_⟩
    rw [show k - (j + 1) + 1 = k - j by omega] at e3
    exact e3
  rw [wsum_rev (P := q.P) (y := i) (K := k) (fun j _ => rfl) k (Nat.le_refl _), Nat.sub_self, e2] at s2
  have s2 : m__law_along [.cel a, .tup (rowF (fun j => it q.P i (k - j)) (k + 1))] h = .ok (.int (st.T i)) h := by
    rw [s2]
    simp [wt]
  have a1 : atI (rowF (fun j => it q.P i (k - j)) (k + 1)) 0 = some (.int (-1)) := by
    rw [show (0 : Int) = ((0 : Nat) : Int) from rfl, rowF_at (by omega), ← e1]
    rfl
  have a2 : atI (rowF (fun j => it q.P i (k - j)) (k + 1)) (-1) = some (.int i) := by
    rw [atI_neg1 (by rw [rowF_len]; omega), rowF_len]
    unfold rowF
    rw [rangeMap_get (by omega)]
    simp only [show k - (k + 1 - 1) = 0 by omega]
    rfl
  have sm : m__law_same 8 [.int (st.T i), .int (st.T i)] h = .ok (.bl true) h := same_refl (k := 7) (by decide) rfl
  simp [m__law_is_chain, start, s1, a1, a2, s2, sm]
/-- the ring is taken -/
theorem ringV_ok {n : Nat} {bs : List B} {P : Int → Option Int} {y : Int} {p : Nat} (R : Ring n bs P y p) (hn : n ≤ 100) {kvs : KVs} (g : Gd (gaps bs) kvs) {h : AH} {a : Nat} (ha : h[a]? = some (.dic true kvs)) :
    m__law_is_ring [.int n, .cel a, .tup (itL P y p).reverse] h = .ok (.bl true) h := by
  rw [itL_rev]
  have hp := R.pos
  have few := R.few
  obtain ⟨m, rfl⟩ : ∃ m, p = m + 1 := ⟨p - 1, by omega⟩
  simp only [show m + 1 - 1 = m by omega]
  have s1 := steps_ok (n := n) (m := m) (f := fun j => it P y (m - j)) (h := h) fun j hj => R.rng _
  -- the rows unlike
  obtain ⟨σ', h', e, ⟨o3, rfl⟩, he⟩ := forL_inv (g := gNm 3) (b := s__law_is_ring_0) (fun k σ h' => (∃ o3, σ = [some (.int n), some (.cel a), some (.tup (rowF (fun j => it P y (m - j)) (m + 1))), o3, none]) ∧ h' = h)
    (rng 0 (m + 1)) 0 [some (.int n), some (.cel a), some (.tup (rowF (fun j => it P y (m - j)) (m + 1))), none, none] h ⟨⟨none, rfl⟩, rfl⟩ (fun i x σ h' hx ⟨⟨o3, e1⟩, e2⟩ => by
      subst e1 e2
      obtain ⟨hi, rfl⟩ := rng_get hx
      refine ⟨_, _, _, _, rfl, .inl ?_, ⟨some (.int (0 + (i : Int))), rfl⟩, rfl⟩
      rw [Int.zero_add]
      have e1 := rowF_at (f := fun j => it P y (m - j)) hi
      have e2 : cut (rowF (fun j => it P y (m - j)) (m + 1)) none (some (i : Int)) = rowF (fun j => it P y (m - j)) i := by
        rw [cut_to (by omega)]
        unfold rowF
        rw [← List.map_take, List.take_range, Int.toNat_natCast, Nat.min_eq_left (by omega)]
      have e3 : (rowF (fun j => it P y (m - j)) i).all AV.flat = true := by
        rw [List.all_eq_true]
        intro x hx
        obtain ⟨j, hj, rfl⟩ := List.mem_map.mp hx
        rfl
      have e4 : ((rowF (fun j => it P y (m - j)) i).any fun z => z.eqv (.int (it P y (m - i)))) = false := by
        rw [List.any_eq_false]
        intro x hx
        obtain ⟨j, hj, rfl⟩ := List.mem_map.mp hx
        rw [List.mem_range] at hj
        have := R.ne (m - i) (m - j) (by omega) (by omega)
        simp only [AV.eqv, beq_iff_eq]
        exact fun z => this z.symm
      have e5 := in_tup (x := .int (it P y (m - i))) (h := h') rfl e3
      rw [e4] at e5
      generalize rowF (fun j => it P y (m - j)) i = F at *
      simp [s__law_is_ring_0, e1, e2, e5])
  rw [he] at e
  -- along it
  have cutOne : cut (rowF (fun j => it P y (m - j)) (m + 1)) none (some 1) = [.int (it P y m)] := by
    rw [cut_to (by decide)]
    unfold rowF
    rw [← List.map_take, List.take_range, show min (Int.toNat 1) (m + 1) = 1 by simp]
    rfl
  have app : rowF (fun j => it P y (m - j)) (m + 1) ++ [.int (it P y m)] = rowF (fun j => if j < m + 1 then it P y (m - j) else it P y m) (m + 1 + 1) := by
    unfold rowF
    rw [List.range_succ (n := m + 1), List.map_append]
    congr 1
    · exact rangeMap_congr fun j hj => by dsimp only; rw [if_pos hj]
    · simp
  have s2 := along_ok g ha (f := fun j => if j < m + 1 then it P y (m - j) else it P y m) (m := m + 1) (by omega) fun j hj => by
    by_cases hj2 : j + 1 < m + 1
    · obtain ⟨v, hv⟩ := R.gap (m - (j + 1))
      refine ⟨v, ?_⟩
      rw [show m - (j + 1) + 1 = m - j by omega] at hv
      rw [if_pos hj, if_pos hj2]
      exact hv
    · obtain ⟨v, hv⟩ := R.gap m
      refine ⟨v, ?_⟩
      rw [R.back] at hv
      rw [if_pos hj, if_neg hj2, show m - j = 0 by omega]
      exact hv
  have hsum : wsum (gaps bs) (fun j => if j < m + 1 then it P y (m - j) else it P y m) (m + 1) = wt (gaps bs) P y (m + 1) := by
    have h1 := wsum_rev (G := gaps bs) (P := P) (y := y) (K := m) (f := fun j => if j < m + 1 then it P y (m - j) else it P y m) (fun j hj => by rw [if_pos (by omega)]) m (Nat.le_refl _)
    unfold wsum
    rw [h1]
    simp only [Nat.sub_self]
    rw [if_pos (by omega), if_neg (by omega)]
    show wt (gaps bs) P y m - 0 + (gaps bs y (it P y m)).getD 0 = wt (gaps bs) P y m + (gaps bs (it P y (m + 1)) (it P y m)).getD 0
    rw [R.back]
    omega
  rw [hsum] at s2
  have hpos := R.sum
  generalize wt (gaps bs) P y (m + 1) = W at s2 hpos
  generalize rowF (fun j => if j < m + 1 then it P y (m - j) else it P y m) (m + 1 + 1) = F2 at app s2
  have hlen := rowF_len (fun j => it P y (m - j)) (m + 1)
  generalize rowF (fun j => it P y (m - j)) (m + 1) = F1 at *
  have hB : inBig ((m : Int) + 1) = true := inBig_of (by omega) (by omega)
  have hl2 : F1.length + 1 ≤ 16777216 := by omega
  refine def_rt rfl ?_
  show sSeq _ _ [some (.int n), some (.cel a), some (.tup F1), none, none] _ = _
  rw [seq_nx (if_no (h1 := h) (by simp [s1]))]
  rw [seq_nx (for_seq (h1 := h) (xs := rng 0 (m + 1)) (by simp [hlen, hB]) e)]
  rw [seq_nx (σ1 := [some (.int n), some (.cel a), some (.tup F1), o3, some (.int W)]) (h1 := h) (by simp [cutOne, hl2, app, s2])]
  simp [AV.isN, hpos]
theorem told_ok {n : Nat} {bs : List B} (hn : n ≤ 100) (hl : bs.length ≤ 1000) (ok : Ok n bs) {v : AV} (t : Told n bs v) (h : AH) : ∃ u, m__law_is_told [.int n, bsv bs, v] h = .ok (.bl true) (h ++ u) := by
  obtain ⟨u1, w, e1, hw⟩ := lawrows_ok hn ok h
  obtain ⟨kvs, e2, g⟩ := gaps_ok hl (h ++ u1)
  have ha : (h ++ u1 ++ [HC.dic true kvs])[(h ++ u1).length]? = some (.dic true kvs) := by simp
  generalize (h ++ u1).length = a at ha e2
  refine ⟨u1 ++ [.dic true kvs], def_rt rfl ?_⟩
  rw [← List.append_assoc]
  generalize hH : h ++ u1 ++ [HC.dic true kvs] = H at *
  show sSeq _ _ [some (.int n), some (bsv bs), some v, none, none, none] _ = _
  rw [seq_nx (σ1 := [some (.int n), some (bsv bs), some v, some w, none, none]) (h1 := h ++ u1) (by simp [e1])]
  rw [seq_nx (σ1 := [some (.int n), some (bsv bs), some v, some w, some (.cel a), none]) (h1 := H) (by simp [e2])]
  cases t with
  | @starts q st f hf =>
    have hw : w = timesV st := by
      rcases hw with ⟨k, hS, rfl⟩ | ⟨_, no⟩
      · unfold timesV
        congr 1
        exact rangeMap_congr fun i hi => by rw [st.rows_at hS i (by omega) (by omega)]
      · refine absurd ?_ (no n (by omega))
        intro x h1 h2
        rw [st.rows n (Nat.le_refl _) x h1 h2, st.rows (n + 1) (by omega) x h1 h2]
    have hne : w.isN = false := by rw [hw]; rfl
    have s1 : m__law_same 8 [.str [115, 116, 97, 114, 116, 115], .str [115, 116, 97, 114, 116, 115]] H = .ok (.bl true) H := same_refl (k := 7) (by decide) (by decide)
    have s2 : m__law_same 8 [w, timesV st] H = .ok (.bl true) H := by
      rw [hw]
      refine same_refl (k := 7) (by decide) ?_
      unfold timesV plain
      simp only [List.length_map, List.length_range, Bool.and_eq_true, decide_eq_true_eq]
      refine ⟨by omega, ?_⟩
      generalize List.range n = l
      induction l with
      | nil => rfl
      | cons x l ih => rw [List.map_cons]; simp only [plains, ih, plain, Bool.and_self]
    have hlen : ((List.range n).map f).length = n := by simp
    have c := lcL_none (g := gNm 5) (t := t__law_is_told_0) (e := e__law_is_told_0) (σ := [some (.int n), some (bsv bs), some (.tup [.str [115, 116, 97, 114, 116, 115], timesV st, .tup ((List.range n).map f)]), some w, some (.cel a), none]) (h := H) (rng 0 n) [] (fun x hx => by
      obtain ⟨i, hi, rfl⟩ := mem_rng hx
      refine ⟨_, rfl, ?_⟩
      have e1 : atI ((List.range n).map f) (i : Int) = some (f i) := by
        rw [atI_nat]
        exact rangeMap_get hi
      have e2 : oIx w (.int i) H = .ok (.int (st.T i)) H := by
        rw [hw]
        unfold timesV
        rw [z_ixT, atI_nat, rangeMap_get hi]
      have e3 := chainV_ok hi hn (hf i hi) g ha
      simp [t__law_is_told_0, e1, e2, e3])
    have hB : inBig (n : Int) = true := inBig_of (by omega) (by omega)
    generalize (List.range n).map f = F at *
    generalize timesV st = TV at *
    generalize bsv bs = bv at *
    rw [seq_nx (if_no (h1 := H) (by simp [isTy]))]
    rw [seq_nx (if_no (h1 := H) (by simp [hne]))]
    rw [seq_nx (if_no (h1 := H) (by simp [s1, s2]))]
    rw [seq_nx (if_no (h1 := H) (by simp [isTy, hlen]))]
    refine ret_ok ?_
    simp [hB, wipe, c]
  | @ring P y p R =>
    have hw : w = .non := by
      rcases hw with ⟨k, hS, _⟩ | ⟨e, _⟩
      · exact absurd hS (R.norows ok k)
      · exact e
    subst hw
    have s1 : m__law_same 8 [.str [114, 105, 110, 103], .str [114, 105, 110, 103]] H = .ok (.bl true) H := same_refl (k := 7) (by decide) (by decide)
    have s2 := ringV_ok R hn g ha
    generalize (itL P y p).reverse = F at *
    generalize bsv bs = bv at *
    rw [seq_nx (if_no (h1 := H) (by simp [isTy]))]
    refine seq_rt ?_
    rw [if_t (h1 := H) (by simp [AV.isN])]
    refine ret_ok ?_
    simp [s1, s2]
end Lk74

end

section
set_option maxHeartbeats 4000000
namespace Lk74
open Mi MiL Bd
theorem pop_ok {c : HC} {t : AH} {n : Nat} {xs : List AV} (hd : Dr c) (hn : t[n]? = some (.lst xs)) (h0 : 0 < xs.length) (h1 : xs.length < 1000000) :
    ∃ i x c', xs[i]? = some x ∧ Dr c' ∧ m__law_pop [.cel 0, .cel (n + 1)] (c :: t) = .ok x (c' :: t.set n (.lst (xs.eraseIdx i))) := by
  obtain ⟨r, c', r0, r1, hd', e⟩ := draw_ok (t := t) (many := xs.length) hd (by omega) (by omega)
  obtain ⟨x, hx⟩ : ∃ x, xs[r.toNat]? = some x := ⟨_, List.getElem?_eq_getElem (by omega)⟩
  refine ⟨r.toNat, x, c', hx, hd', ?_⟩
  have e2 := popAt_ok (c := c') hn r0 hx
  simp [m__law_pop, start, tyA, hn, e, e2]
/-- all of a list in the cell n + 1 are taken out, in any order -/
theorem popAll {e : E} {σ : AS} {g : G} {t0 : AH} : ∀ (xs : List AV) (l acc : List AV) (c : HC), Dr c → xs.length = l.length → acc.length + l.length < 1000000 →
    (∀ x ∈ xs, ∀ h, ∃ σ1, g x σ h = some (σ1, h) ∧ e σ1 h = m__law_pop [.cel 0, .cel (t0.length + 1)] h) →
    ∃ ys c', lcL g tYes e σ xs acc (c :: (t0 ++ [.lst l])) = .ok (acc ++ ys) (c' :: (t0 ++ [.lst []])) ∧ Dr c' ∧ ys.length = l.length ∧ (∀ y ∈ ys, y ∈ l) ∧ (∀ y ∈ l, y ∈ ys)
  | [], l, acc, c, hd, hl, _, _ => by
    have : l = [] := List.length_eq_zero_iff.mp hl.symm
    subst this
    exact ⟨[], c, by simp, hd, rfl, by simp, by simp⟩
  | x :: xs, l, acc, c, hd, hl, hm, st => by
    simp only [List.length_cons] at hl
    obtain ⟨σ1, e1, e2⟩ := st x (by simp) (c :: (t0 ++ [.lst l]))
    obtain ⟨i, y, c1, hy, hd1, e3⟩ := pop_ok (n := t0.length) (t := t0 ++ [.lst l]) (xs := l) hd (by simp) (by omega) (by omega)
    have hil := (List.getElem?_eq_some_iff.mp hy).1
    have hle : (l.eraseIdx i).length = l.length - 1 := by rw [List.length_eraseIdx_of_lt hil]
    rw [set_app0] at e3
    obtain ⟨ys, c2, e4, hd2, l2, p2, q2⟩ := popAll xs (l.eraseIdx i) (acc ++ [y]) c1 hd1 (by omega) (by simp only [List.length_append, List.length_cons, List.length_nil]; omega) fun z hz => st z (List.mem_cons_of_mem _ hz)
    refine ⟨y :: ys, c2, ?_, hd2, by simp; omega, fun z hz => ?_, fun z hz => ?_⟩
    · unfold lcL
      rw [e1]
      simp only [z_tYes, Res.bind_ok, if_true]
      rw [if_pos (by rw [line_is]; omega), e2, e3]
      simp only [Res.bind_ok]
      rw [e4]
      simp
    · rcases List.mem_cons.mp hz with rfl | hz
      · exact List.mem_of_getElem? hy
      · exact List.mem_of_mem_eraseIdx (p2 z hz)
    · rcases mem_erase_or hy hz with rfl | h
      · simp
      · exact List.mem_cons_of_mem _ (q2 z h)
def isInt (v : AV) : Prop := ∃ i : Int, v = .int i
def isB (n : Nat) (v : AV) : Prop := ∃ b : B, v = bav b ∧ In n b
theorem marks_ok {c : HC} {t : AH} {n : Nat} (hd : Dr c) (hn : n ≤ 30) : ∃ xs c', m__law_marks [.cel 0, .int n] (c :: t) = .ok (.lst xs) (c' :: t) ∧ Dr c' ∧ xs.length = n + 1 ∧ ∀ x ∈ xs, isInt x := by
  obtain ⟨w, c1, hw, hd1, e1⟩ := pick_ok (t := t) (v := .lst [.int 3, .int 30, .int 1000]) hd (fun c => rfl) (fun z => by cases z) (by simp) (by simp)
  have hw : ∃ k : Int, w = .int k ∧ 0 < k ∧ k < 1073741824 := by
    simp only [List.mem_cons, List.mem_nil_iff, or_false] at hw
    rcases hw with rfl | rfl | rfl <;> exact ⟨_, rfl, by decide, by decide⟩
  obtain ⟨k, rfl, k0, k1⟩ := hw
  obtain ⟨ys, c2, e2, hd2, l2, p2⟩ := lcL_dr0 (g := gNm 3) (t := tYes) (e := e__law_marks_0) (σ := [some (.cel 0), some (.int n), some (.int k), none]) isInt t (rng 0 n) c1 hd1 (by simp; omega) (fun x hx c hd => by
    obtain ⟨r, c', r0, r1, hd', e⟩ := draw_ok (t := t) (many := k) hd k0 k1
    exact ⟨_, .int r, c', rfl, rfl, by simp [e__law_marks_0, e], hd', r, rfl⟩)
  rw [rng_len] at l2
  have hB : inBig (n : Int) = true := inBig_of (by omega) (by omega)
  have hle : 1 + ys.length ≤ 16777216 := by omega
  have hle2 : ys.length ≤ 16777215 := by omega
  refine ⟨.int 0 :: ys, c2, ?_, hd2, by simp; omega, fun x hx => ?_⟩
  · refine def_rt rfl ?_
    show sSeq _ _ [some (.cel 0), some (.int n), none, none] _ = _
    rw [seq_nx (σ1 := [some (.cel 0), some (.int n), some (.int k), none]) (h1 := c1 :: t) (by simp [e1])]
    refine ret_ok ?_
    simp [hB, wipe, e2]
    omega
  · rcases List.mem_cons.mp hx with rfl | hx
    · exact ⟨0, rfl⟩
    · exact p2 x hx
theorem any_turn {c : HC} {t : AH} {n : Nat} {way : Int} {xs l : List AV} {o5 o6 o7 o8 o9 : Option AV} (hd : Dr c) (hn : n ≤ 30) (hx : xs.length = n + 1) (hxi : ∀ x ∈ xs, isInt x) (hl : l.length < 1000) (hb : ∀ x ∈ l, isB n x) :
    ∃ c' l' p6 p7 p8, s__law_any_bounds_0 [some (.cel 0), some (.int n), some (.lst xs), some (.int way), some (.cel (t.length + 1)), o5, o6, o7, o8, o9] (c :: (t ++ [.lst l])) =
      .nx [some (.cel 0), some (.int n), some (.lst xs), some (.int way), some (.cel (t.length + 1)), o5, p6, p7, p8, o9] (c' :: (t ++ [.lst l'])) ∧ Dr c' ∧ l'.length ≤ l.length + 1 ∧ ∀ x ∈ l', isB n x := by
  obtain ⟨i, c1, i0, i1, hd1, e1⟩ := draw_ok (t := t ++ [.lst l]) (many := (n : Int) + 1) hd (by omega) (by omega)
  obtain ⟨j, c2, j0, j1, hd2, e2⟩ := draw_ok (t := t ++ [.lst l]) (many := (n : Int) + 1) hd1 (by omega) (by omega)
  obtain ⟨g, c3, g0, g1, hd3, e3⟩ := draw_ok (t := t ++ [.lst l]) (many := 13) hd2 (by omega) (by omega)
  -- the gap
  have gap : ∃ gg c4 , Dr c4 ∧ sIf (tB (eOp2 oGt (eVar 3) (eC (.int 0)))) (sAsg (eOp2 oSub (eOp2 oSub (eOp2 oIx (eVar 2) (eVar 7)) (eOp2 oIx (eVar 2) (eVar 6))) (eCall m__law_pick (aCons (eVar 0) (aCons (eLst (aCons (eC (.int 0)) (aCons (eC (.int 0)) (aCons (eC (.int 0)) (aCons (eC (.int 1)) (aCons (eC (.int 6)) (aNil))))))) (aNil))))) (gNm 8)) (sNx)
      [some (.cel 0), some (.int n), some (.lst xs), some (.int way), some (.cel (t.length + 1)), o5, some (.int i), some (.int j), some (.int (g - 8)), o9] (c3 :: (t ++ [.lst l])) =
      .nx [some (.cel 0), some (.int n), some (.lst xs), some (.int way), some (.cel (t.length + 1)), o5, some (.int i), some (.int j), some (.int gg), o9] (c4 :: (t ++ [.lst l])) := by
    by_cases hw : 0 < way
    · obtain ⟨w, c4, hw4, hd4, e4⟩ := pick_ok (t := t ++ [.lst l]) (v := .lst [.int 0, .int 0, .int 0, .int 1, .int 6]) hd3 (fun c => rfl) (fun z => by cases z) (by simp) (by simp)
      have hw4 : isInt w := by
        simp only [List.mem_cons, List.mem_nil_iff, or_false] at hw4
        rcases hw4 with rfl | rfl | rfl | rfl | rfl <;> exact ⟨_, rfl⟩
      obtain ⟨w, rfl⟩ := hw4
      obtain ⟨a, ha⟩ : ∃ a, xs[i.toNat]? = some a := ⟨_, List.getElem?_eq_getElem (by omega)⟩
      obtain ⟨b, hb⟩ : ∃ a, xs[j.toNat]? = some a := ⟨_, List.getElem?_eq_getElem (by omega)⟩
      obtain ⟨a, rfl⟩ := hxi _ (List.mem_of_getElem? ha)
      obtain ⟨b, rfl⟩ := hxi _ (List.mem_of_getElem? hb)
      refine ⟨b - a - w, c4, hd4, ?_⟩
      rw [if_t (h1 := c3 :: (t ++ [.lst l])) (by simp [hw])]
      simp [atI_of i0, atI_of j0, ha, hb, e4]
    · refine ⟨g - 8, c3, hd3, ?_⟩
      exact if_no (by simp [hw])
  obtain ⟨gg, c4, hd4, e4⟩ := gap
  have hl2 : l.length < 16777216 := by omega
  have hget : (c4 :: (t ++ [HC.lst l]))[t.length + 1]? = some (HC.lst l) := by simp
  have pre : ∀ r, sIf (tB (eOp2 oNe (eVar 6) (eVar 7))) (sDrop (eM1 "list" mAppend (eVar 4) (eTup (aCons (eOp2 oSub (eVar 6) (eC (.int 1))) (aCons (eOp2 oSub (eVar 7) (eC (.int 1))) (aCons (eVar 8) (aNil))))))) (sIf (tB (eOp2 oGt (eVar 6) (eC (.int 0)))) (sDrop (eM1 "list" mAppend (eVar 4) (eTup (aCons (eOp2 oSub (eVar 6) (eC (.int 1))) (aCons (eOp2 oSub (eVar 6) (eC (.int 1))) (aCons (eCall cMin2 (aCons (eVar 8) (aCons (eC (.int 0)) (aNil)))) (aNil))))))) (sNx))
      [some (.cel 0), some (.int n), some (.lst xs), some (.int way), some (.cel (t.length + 1)), o5, some (.int i), some (.int j), some (.int gg), o9] (c4 :: (t ++ [.lst l])) = r →
      s__law_any_bounds_0 [some (.cel 0), some (.int n), some (.lst xs), some (.int way), some (.cel (t.length + 1)), o5, o6, o7, o8, o9] (c :: (t ++ [.lst l])) = r := by
    intro r hr
    unfold s__law_any_bounds_0
    rw [seq_nx (σ1 := [some (.cel 0), some (.int n), some (.lst xs), some (.int way), some (.cel (t.length + 1)), o5, some (.int i), o7, o8, o9]) (h1 := c1 :: (t ++ [.lst l])) (by simp [e1])]
    rw [seq_nx (σ1 := [some (.cel 0), some (.int n), some (.lst xs), some (.int way), some (.cel (t.length + 1)), o5, some (.int i), some (.int j), o8, o9]) (h1 := c2 :: (t ++ [.lst l])) (by simp [e2])]
    rw [seq_nx (σ1 := [some (.cel 0), some (.int n), some (.lst xs), some (.int way), some (.cel (t.length + 1)), o5, some (.int i), some (.int j), some (.int (g - 8)), o9]) (h1 := c3 :: (t ++ [.lst l])) (by simp [e3])]
    rw [seq_nx e4]
    exact hr
  by_cases hij : i = j
  · subst hij
    by_cases hi : 0 < i
    · refine ⟨c4, l ++ [bav (i - 1, i - 1, if 0 < gg then 0 else gg)], some (.int i), some (.int i), some (.int gg), pre _ ?_, hd4, by simp, fun x hx => ?_⟩
      rotate_left
      · rcases List.mem_append.mp hx with hx | hx
        · exact hb x hx
        · simp at hx
          exact ⟨_, hx, by dsimp only [In]; omega⟩
      · rw [if_f (h1 := c4 :: (t ++ [.lst l])) (by simp)]
        rw [if_t (h1 := c4 :: (t ++ [.lst l])) (by simp [hi])]
        simp [tyA, hl2, bav]
    · refine ⟨c4, l, some (.int i), some (.int i), some (.int gg), pre _ ?_, hd4, by omega, hb⟩
      rw [if_f (h1 := c4 :: (t ++ [.lst l])) (by simp)]
      exact if_no (by simp [hi])
  · refine ⟨c4, l ++ [bav (i - 1, j - 1, gg)], some (.int i), some (.int j), some (.int gg), pre _ ?_, hd4, by simp, fun x hx => ?_⟩
    rotate_left
    · rcases List.mem_append.mp hx with hx | hx
      · exact hb x hx
      · simp at hx
        exact ⟨_, hx, by dsimp only [In]; omega⟩
    · rw [if_t (h1 := c4 :: (t ++ [.lst l])) (by simp [hij])]
      simp [tyA, hl2, bav]
theorem any_ok {c : HC} {t : AH} {n : Nat} (hd : Dr c) (hn : n ≤ 30) : ∃ c' u l m, m__law_any_bounds [.cel 0, .int n] (c :: t) = .ok (.cel m) (c' :: (t ++ u)) ∧ (c' :: (t ++ u))[m]? = some (.lst l) ∧ Dr c' ∧ l.length ≤ 200 ∧ ∀ x ∈ l, isB n x := by
  obtain ⟨xs, c1, e1, hd1, l1, x1⟩ := marks_ok (t := t) hd hn
  obtain ⟨way, c2, w0, w1, hd2, e2⟩ := draw_ok (t := t) (many := 3) hd1 (by omega) (by omega)
  obtain ⟨k, c3, k0, k1, hd3, e3⟩ := draw_ok (t := t ++ [.lst []]) (many := 3 * (n : Int) + 1) hd2 (by omega) (by omega)
  have hB : inBig k = true := inBig_of (by omega) (by omega)
  obtain ⟨σ', h', e4, c4, l4, p5, p6, p7, p8, rfl, rfl, hd4, len4, b4⟩ := forL_inv (g := gNm 5) (b := s__law_any_bounds_0) (fun i σ h' => ∃ c l o5 o6 o7 o8, σ = [some (.cel 0), some (.int n), some (.lst xs), some (.int way), some (.cel (t.length + 1)), o5, o6, o7, o8, none] ∧ h' = c :: (t ++ [.lst l]) ∧ Dr c ∧ l.length ≤ i ∧ ∀ x ∈ l, isB n x)
    (rng 0 k.toNat) 0 [some (.cel 0), some (.int n), some (.lst xs), some (.int way), some (.cel (t.length + 1)), none, none, none, none, none] (c3 :: (t ++ [.lst []])) ⟨c3, [], none, none, none, none, rfl, rfl, hd3, by simp, by simp⟩
    (fun i x σ h' hx ⟨c, l, o5, o6, o7, o8, e1, e2, hd, hl, hb⟩ => by
      subst e1 e2
      obtain ⟨hi, rfl⟩ := rng_get hx
      obtain ⟨c', l', q6, q7, q8, e, hd', hl', hb'⟩ := any_turn (way := way) (o5 := some (.int (0 + (i : Int)))) (o6 := o6) (o7 := o7) (o8 := o8) (o9 := none) hd hn l1 x1 (by omega) hb
      exact ⟨_, _, _, _, rfl, .inl e, c', l', _, _, _, _, rfl, rfl, hd', by omega, hb'⟩)
  rw [Nat.zero_add, rng_len] at len4
  have hmul : (-18446744073709551616 < (3 : Int) ∧ (3 : Int) < 18446744073709551616) ∨ (-18446744073709551616 < (n : Int) ∧ (n : Int) < 18446744073709551616) := .inl ⟨by decide, by decide⟩
  -- the end
  have fin : ∃ c5 l5 p5' p9, sIf (tAnd (tB (eOp2 oEq (eVar 3) (eC (.int 2)))) (tB (eOp2 oGt (eCall cLen (aCons (eVar 4) (aNil))) (eC (.int 0))))) (sSeq (sAsg (eCall m__law_draw (aCons (eVar 0) (aCons (eCall cLen (aCons (eVar 4) (aNil))) (aNil)))) (gNm 5)) (sSeq (sAsg (eOp2 oIx (eVar 4) (eVar 5)) (gNm 9)) (sSet (eTup (aCons (eOp2 oIx (eVar 9) (eC (.int 0))) (aCons (eOp2 oIx (eVar 9) (eC (.int 1))) (aCons (eOp2 oAdd (eOp2 oIx (eVar 9) (eC (.int 2))) (eCall cInt (aCons (eOp2 oNe (eOp2 oIx (eVar 9) (eC (.int 0))) (eOp2 oIx (eVar 9) (eC (.int 1)))) (aNil)))) (aNil))))) (eVar 4) (eVar 5)))) (sNx)
      [some (.cel 0), some (.int n), some (.lst xs), some (.int way), some (.cel (t.length + 1)), p5, p6, p7, p8, none] (c4 :: (t ++ [.lst l4])) =
      .nx [some (.cel 0), some (.int n), some (.lst xs), some (.int way), some (.cel (t.length + 1)), p5', p6, p7, p8, p9] (c5 :: (t ++ [.lst l5])) ∧ Dr c5 ∧ l5.length ≤ 200 ∧ ∀ x ∈ l5, isB n x := by
    by_cases hw : way = 2 ∧ 0 < l4.length
    · obtain ⟨r, c5, r0, r1, hd5, e5⟩ := draw_ok (t := t ++ [.lst l4]) (many := (l4.length : Int)) hd4 (by omega) (by omega)
      obtain ⟨x, hx⟩ : ∃ x, l4[r.toNat]? = some x := ⟨_, List.getElem?_eq_getElem (by omega)⟩
      obtain ⟨⟨f, s, g⟩, rfl, hb⟩ := b4 x (List.mem_of_getElem? hx)
      have hat : atN l4.length r = some r.toNat := by
        unfold atN
        rw [if_pos r0, if_pos (by omega)]
      refine ⟨c5, l4.set r.toNat (bav (f, s, g + b2i (!(f == s)))), some (.int r), some (bav (f, s, g)), ?_, hd5, by simp; omega, fun x hx => ?_⟩
      · rw [if_t (h1 := c4 :: (t ++ [.lst l4])) (by simp [hw.1, hw.2])]
        rw [seq_nx (σ1 := [some (.cel 0), some (.int n), some (.lst xs), some (.int way), some (.cel (t.length + 1)), some (.int r), p6, p7, p8, none]) (h1 := c5 :: (t ++ [.lst l4])) (by simp [e5])]
        rw [seq_nx (σ1 := [some (.cel 0), some (.int n), some (.lst xs), some (.int way), some (.cel (t.length + 1)), some (.int r), p6, p7, p8, some (bav (f, s, g))]) (h1 := c5 :: (t ++ [.lst l4])) (by simp [atI_of r0, hx])]
        simp [bav, hat]
      · rcases List.mem_or_eq_of_mem_set hx with hx | rfl
        · exact b4 x hx
        · exact ⟨_, rfl, hb⟩
    · refine ⟨c4, l4, p5, none, if_no ?_, hd4, by omega, b4⟩
      by_cases hw2 : way = 2
      · have : ¬ 0 < l4.length := fun z => hw ⟨hw2, z⟩
        simp [hw2, this]
      · simp [hw2]
  obtain ⟨c5, l5, p5', p9, e5, hd5, len5, b5⟩ := fin
  refine ⟨c5, [.lst l5], l5, t.length + 1, ?_, by simp, hd5, len5, b5⟩
  refine def_rt rfl ?_
  show sSeq _ _ [some (.cel 0), some (.int n), none, none, none, none, none, none, none, none] _ = _
  rw [seq_nx (σ1 := [some (.cel 0), some (.int n), some (.lst xs), none, none, none, none, none, none, none]) (h1 := c1 :: t) (by simp [e1])]
  rw [seq_nx (σ1 := [some (.cel 0), some (.int n), some (.lst xs), some (.int way), none, none, none, none, none, none]) (h1 := c2 :: t) (by simp [e2])]
  rw [seq_nx (σ1 := [some (.cel 0), some (.int n), some (.lst xs), some (.int way), some (.cel (t.length + 1)), none, none, none, none, none]) (h1 := c2 :: (t ++ [.lst []])) (by simp)]
  rw [seq_nx (for_seq (h1 := c3 :: (t ++ [.lst []])) (xs := rng 0 k.toNat) (by simp [hmul, e3, hB]) e4)]
  rw [seq_nx e5]
  simp
theorem long_ok {c : HC} {t : AH} {n : Nat} (hd : Dr c) (h0 : 0 < n) (hn : n ≤ 30) : ∃ c' u l, m__law_long_bounds [.cel 0, .int n] (c :: t) = .ok (.lst l) (c' :: (t ++ u)) ∧ Dr c' ∧ l.length ≤ 200 ∧ ∀ x ∈ l, isB n x := by
  have hB : inBig (n : Int) = true := inBig_of (by omega) (by omega)
  have hB0 : inBig (0 : Int) = true := inBig_of (by omega) (by omega)
  have hB1 : inBig (1 : Int) = true := inBig_of (by omega) (by omega)
  have hrg : rgL 0 n = rng 0 n := by simp [rgL, rng]
  have hok : rgOk 0 n = true := by
    unfold rgOk
    rw [hB, hB0]
    simp
    omega
  obtain ⟨ys, c1, e1, hd1, l1, p1, _⟩ := popAll (e := e__law_long_bounds_0) (g := gNm 6) (σ := [some (.cel 0), some (.int n), some (.cel (t.length + 1)), none, none, none, none, none]) (t0 := t) (rng 0 n) (rng 0 n) [] c hd rfl (by simp; omega) (fun x hx h => ⟨_, rfl, by simp [e__law_long_bounds_0]⟩)
  rw [List.nil_append] at e1
  rw [rng_len] at l1
  have ysI : ∀ i, i < n → ∃ k : Nat, k < n ∧ ys[i]? = some (.int k) := fun i hi => by
    obtain ⟨y, hy⟩ : ∃ y, ys[i]? = some y := ⟨_, List.getElem?_eq_getElem (by omega)⟩
    obtain ⟨k, hk, rfl⟩ := mem_rng (p1 y (List.mem_of_getElem? hy))
    exact ⟨k, hk, hy⟩
  obtain ⟨σ', h', e2, c2, l2, tot, o6, o7, rfl, rfl, hd2, len2, b2⟩ := forL_inv (g := gNm 6) (b := s__law_long_bounds_0) (fun i σ h' => ∃ c l tot o6 o7, σ = [some (.cel 0), some (.int n), some (.cel (t.length + 1)), some (.lst ys), some (.lst l), some (.int tot), o6, o7] ∧ h' = c :: (t ++ [.lst []]) ∧ Dr c ∧ l.length ≤ i ∧ ∀ x ∈ l, isB n x)
    (rng 1 (n - 1)) 0 [some (.cel 0), some (.int n), some (.cel (t.length + 1)), some (.lst ys), some (.lst []), some (.int 0), none, none] (c1 :: (t ++ [.lst []])) ⟨c1, [], 0, none, none, rfl, rfl, hd1, by simp, by simp⟩
    (fun i x σ h' hx ⟨c, l, tot, o6, o7, e1, e2, hd, hl, hb⟩ => by
      subst e1 e2
      obtain ⟨hi, rfl⟩ := rng_get hx
      obtain ⟨g, c', g0, g1, hd', e⟩ := draw_ok (t := t ++ [.lst []]) (many := 6) hd (by omega) (by omega)
      obtain ⟨a, ha, ea⟩ := ysI i (by omega)
      obtain ⟨b, hbn, eb⟩ := ysI (i + 1) (by omega)
      have a1 : atI ys (1 + (i : Int) - 1) = some (.int a) := by
        rw [show 1 + (i : Int) - 1 = ((i : Nat) : Int) by omega, atI_nat, ea]
      have a2 : atI ys (1 + (i : Int)) = some (.int b) := by
        rw [show 1 + (i : Int) = ((i + 1 : Nat) : Int) by omega, atI_nat, eb]
      have hle : 1 + l.length ≤ 16777216 := by omega
      have hle2 : l.length ≤ 16777215 := by omega
      refine ⟨_, _, _, _, rfl, .inl ?_, c', bav (a, b, g) :: l, tot + g, some (.int (1 + (i : Int))), some (.int g), rfl, rfl, hd', by simp; omega, fun x hx => ?_⟩
      · simp [s__law_long_bounds_0, e, a1, a2, bav, hle]
      · rcases List.mem_cons.mp hx with rfl | hx
        · exact ⟨_, rfl, by dsimp only [In]; omega⟩
        · exact hb x hx)
  rw [Nat.zero_add, rng_len] at len2
  obtain ⟨g, c3, g0, g1, hd3, e3⟩ := draw_ok (t := t ++ [.lst []]) (many := 3) hd2 (by omega) (by omega)
  obtain ⟨a, ha, ea⟩ := ysI (n - 1) (by omega)
  have a1 : atI ys ((n : Int) - 1) = some (.int a) := by
    rw [show (n : Int) - 1 = ((n - 1 : Nat) : Int) by omega, atI_nat, ea]
  have hle : 1 + l2.length ≤ 16777216 := by omega
  have hnt : ((n : Int) - 1).toNat = n - 1 := by omega
  refine ⟨c3, [.lst []], bav (a, -1, g - 1 - tot) :: l2, ?_, hd3, by simp; omega, fun x hx => ?_⟩
  · refine def_rt rfl ?_
    show sSeq _ _ [some (.cel 0), some (.int n), none, none, none, none, none, none] _ = _
    rw [seq_nx (σ1 := [some (.cel 0), some (.int n), some (.cel (t.length + 1)), none, none, none, none, none]) (h1 := c :: (t ++ [.lst (rng 0 n)])) (by simp [eLrg, hok, hrg])]
    rw [seq_nx (σ1 := [some (.cel 0), some (.int n), some (.cel (t.length + 1)), some (.lst ys), none, none, none, none]) (h1 := c1 :: (t ++ [.lst []])) (by simp [hB, wipe, e1])]
    rw [seq_nx (σ1 := [some (.cel 0), some (.int n), some (.cel (t.length + 1)), some (.lst ys), some (.lst []), none, none, none]) (h1 := c1 :: (t ++ [.lst []])) (by simp)]
    rw [seq_nx (σ1 := [some (.cel 0), some (.int n), some (.cel (t.length + 1)), some (.lst ys), some (.lst []), some (.int 0), none, none]) (h1 := c1 :: (t ++ [.lst []])) (by simp)]
    rw [seq_nx (for_seq (h1 := c1 :: (t ++ [.lst []])) (xs := rng 1 (n - 1)) (by simp [hB, hB1, hnt]) e2)]
    refine ret_ok ?_
    simp [e3, a1, bav, hle]
  · rcases List.mem_cons.mp hx with rfl | hx
    · exact ⟨_, rfl, by dsimp only [In]; omega⟩
    · exact b2 x hx
/-- a list of bounds as values -/
theorem bs_of {n : Nat} : ∀ {l : List AV}, (∀ x ∈ l, isB n x) → ∃ bs : List B, l = bs.map bav ∧ ∀ b ∈ bs, In n b
  | [], _ => ⟨[], rfl, by simp⟩
  | x :: l, h => by
    obtain ⟨b, rfl, hb⟩ := h x (by simp)
    obtain ⟨bs, rfl, hbs⟩ := bs_of fun y hy => h y (List.mem_cons_of_mem _ hy)
    exact ⟨b :: bs, rfl, fun c hc => by rcases List.mem_cons.mp hc with rfl | hc; exact hb; exact hbs c hc⟩
theorem bav_inj {a b : B} (h : bav a = bav b) : a = b := by
  obtain ⟨a1, a2, a3⟩ := a
  obtain ⟨b1, b2, b3⟩ := b
  unfold bav at h
  simp only [AV.tup.injEq, List.cons.injEq, AV.int.injEq, and_true] at h
  rw [h.1, h.2.1, h.2.2]
theorem ext_ok {c : HC} {t : AH} {a : Nat} {v : AV} {xs ys : List AV} (ha : (c :: t)[a + 1]? = some (.lst xs)) (hv : lstOf (c :: t) v = some ys) (hl : xs.length + ys.length ≤ 16777216) : mExtend (.cel (a + 1)) v (c :: t) = .ok .non (c :: t.set a (.lst (xs ++ ys))) := by
  unfold mExtend
  rw [hv]
  simp only [ha]
  rw [if_pos (by rw [line_is]; omega)]
  rfl
theorem bounds_ok {c : HC} {t : AH} {n : Nat} (hd : Dr c) (hn : n ≤ 30) : ∃ c' u bs, m__law_bounds [.cel 0, .int n] (c :: t) = .ok (bsv bs) (c' :: (t ++ u)) ∧ Dr c' ∧ bs.length ≤ 400 ∧ Ok n bs := by
  have hB : inBig (n : Int) = true := inBig_of (by omega) (by omega)
  obtain ⟨f0, hf0⟩ : ∃ f0 : Nat → AV, f0 = fun (i : Nat) => bav (-1, (i : Int), 0) := ⟨_, rfl⟩
  have c0 := lcL_rng (g := gNm 4) (t := tYes) (e := e__law_bounds_0) (σ := [some (.cel 0), some (.int n), none, none, none]) (h := c :: t) f0 n (by simp; omega) (fun i hi => ⟨_, rfl, rfl, by simp [e__law_bounds_0, hf0, bav]⟩)
  obtain ⟨L1, hL1⟩ : ∃ L1, (List.range n).map f0 = L1 := ⟨_, rfl⟩
  have len1 : L1.length = n := by rw [← hL1]; simp
  rw [hL1] at c0
  -- the first part and the second one
  have two : ∃ c1 u l, sIf (tAnd (tB (eOp2 oGt (eVar 1) (eC (.int 0)))) (tB (eOp2 oEq (eCall m__law_draw (aCons (eVar 0) (aCons (eC (.int 3)) (aNil)))) (eC (.int 1))))) (sDrop (eM1 "list" mExtend (eVar 2) (eCall m__law_long_bounds (aCons (eVar 0) (aCons (eVar 1) (aNil)))))) (sDrop (eM1 "list" mExtend (eVar 2) (eCall m__law_any_bounds (aCons (eVar 0) (aCons (eVar 1) (aNil))))))
      [some (.cel 0), some (.int n), some (.cel (t.length + 1)), none, none] (c :: (t ++ [.lst L1])) = .nx [some (.cel 0), some (.int n), some (.cel (t.length + 1)), none, none] (c1 :: (t ++ .lst (L1 ++ l) :: u)) ∧ Dr c1 ∧ l.length ≤ 200 ∧ ∀ x ∈ l, isB n x := by
    have viaAny : ∀ (c' : HC), Dr c' → ∃ c1 u l, sDrop (eM1 "list" mExtend (eVar 2) (eCall m__law_any_bounds (aCons (eVar 0) (aCons (eVar 1) (aNil))))) [some (.cel 0), some (.int n), some (.cel (t.length + 1)), none, none] (c' :: (t ++ [.lst L1])) = .nx [some (.cel 0), some (.int n), some (.cel (t.length + 1)), none, none] (c1 :: (t ++ .lst (L1 ++ l) :: u)) ∧ Dr c1 ∧ l.length ≤ 200 ∧ ∀ x ∈ l, isB n x := by
      intro c' hd'
      obtain ⟨c1, u, l, m, e, hm, hd1, hl, hb⟩ := any_ok (t := t ++ [.lst L1]) hd' hn
      rw [List.append_assoc] at e hm
      have hx := ext_ok (c := c1) (t := t ++ ([.lst L1] ++ u)) (a := t.length) (v := .cel m) (xs := L1) (ys := l) (by simp) (by simp only [lstOf, hm]) (by omega)
      refine ⟨c1, u, l, ?_, hd1, hl, hb⟩
      have hset : (t ++ ([HC.lst L1] ++ u)).set t.length (.lst (L1 ++ l)) = t ++ .lst (L1 ++ l) :: u := set_app0 _ _ _ _
      rw [hset] at hx
      simp only [List.singleton_append] at e hx
      generalize L1 ++ l = L2 at *
      simp [tyA, e, hx]
    by_cases h0 : 0 < n
    · obtain ⟨r, c1, r0, r1, hd1, e1⟩ := draw_ok (t := t ++ [.lst L1]) (many := 3) hd (by omega) (by omega)
      by_cases hr : r = 1
      · obtain ⟨c2, u, l, e, hd2, hl, hb⟩ := long_ok (t := t ++ [.lst L1]) hd1 h0 hn
        rw [List.append_assoc] at e
        have hx := ext_ok (c := c2) (t := t ++ ([.lst L1] ++ u)) (a := t.length) (v := .lst l) (xs := L1) (ys := l) (by simp) rfl (by omega)
        refine ⟨c2, u, l, ?_, hd2, hl, hb⟩
        have hset : (t ++ ([HC.lst L1] ++ u)).set t.length (.lst (L1 ++ l)) = t ++ .lst (L1 ++ l) :: u := set_app0 _ _ _ _
        rw [hset] at hx
        simp only [List.singleton_append] at e hx
        generalize L1 ++ l = L2 at *
        rw [if_t (h1 := c1 :: (t ++ [.lst L1])) (by simp [h0, e1, hr])]
        simp [tyA, e, hx]
      · obtain ⟨c2, u, l, e, r⟩ := viaAny c1 hd1
        refine ⟨c2, u, l, ?_, r⟩
        rw [if_f (h1 := c1 :: (t ++ [.lst L1])) (by simp [h0, e1, hr])]
        exact e
    · obtain ⟨c2, u, l, e, r⟩ := viaAny c hd
      refine ⟨c2, u, l, ?_, r⟩
      rw [if_f (h1 := c :: (t ++ [.lst L1])) (by simp [h0])]
      exact e
  obtain ⟨c1, u, l, e1, hd1, hl, hb⟩ := two
  have hall : ∀ x ∈ L1 ++ l, isB n x := fun x hx => by
    rcases List.mem_append.mp hx with hx | hx
    · rw [← hL1] at hx
      obtain ⟨i, hi, rfl⟩ := List.mem_map.mp hx
      rw [List.mem_range] at hi
      rw [hf0]
      exact ⟨_, rfl, by dsimp only [In]; omega⟩
    · exact hb x hx
  have hf : ∀ i, i < n → f0 i ∈ L1 ++ l := fun i hi => List.mem_append_left _ (by rw [← hL1]; exact List.mem_map.mpr ⟨i, List.mem_range.mpr hi, rfl⟩)
  have hL : (L1 ++ l).length ≤ 300 := by simp; omega
  obtain ⟨L, hLdef⟩ : ∃ L, L1 ++ l = L := ⟨_, rfl⟩
  rw [hLdef] at e1 hall hf hL
  obtain ⟨r, c2, r0, r1, hd2, e2⟩ := draw_ok (t := t ++ .lst L :: u) (many := 3) hd1 (by omega) (by omega)
  -- in any order
  have ord : ∃ c3 u3 M o3 a, sIf (tB (eOp2 oEq (eCall m__law_draw (aCons (eVar 0) (aCons (eC (.int 3)) (aNil)))) (eC (.int 1)))) (sSeq (sAsg (eCall cListC (aCons (eVar 2) (aNil))) (gNm 3)) (sAsg (eLcC (iRng1 (eCall cLen (aCons (eVar 2) (aNil)))) (gNm 4) (tYes) (e__law_bounds_1) [4]) (gNm 2))) (sNx)
      [some (.cel 0), some (.int n), some (.cel (t.length + 1)), none, none] (c1 :: (t ++ .lst L :: u)) = .nx [some (.cel 0), some (.int n), some (.cel a), o3, none] (c3 :: (t ++ u3)) ∧ (c3 :: (t ++ u3))[a]? = some (.lst M) ∧ Dr c3 ∧ M.length ≤ 300 ∧ (∀ x ∈ M, x ∈ L) ∧ (∀ x ∈ L, x ∈ M) := by
    by_cases hr : r = 1
    · have hLn : inBig (L.length : Int) = true := inBig_of (by omega) (by omega)
      obtain ⟨ys, c3, e3, hd3, l3, p3, q3⟩ := popAll (e := e__law_bounds_1) (g := gNm 4) (σ := [some (.cel 0), some (.int n), some (.cel (t.length + 1)), some (.cel ((t ++ .lst L :: u).length + 1)), none]) (t0 := t ++ .lst L :: u) (rng 0 L.length) L [] c2 hd2 (by simp) (by simp; omega) (fun x hx h => ⟨_, rfl, by simp [e__law_bounds_1]⟩)
      rw [List.nil_append] at e3
      refine ⟨c3, .lst L :: u ++ [.lst []] ++ [.lst ys], ys, some (.cel ((t ++ .lst L :: u).length + 1)), (t ++ .lst L :: u).length + 2, ?_, ?_, hd3, by omega, p3, q3⟩
      · have hsq : seqOf (c2 :: (t ++ .lst L :: u)) (.cel (t.length + 1)) = some L := by simp [seqOf, lstOf]
        have hlen : ∀ w, cLen [.cel (t.length + 1)] (c2 :: (t ++ .lst L :: u ++ w)) = .ok (.int L.length) (c2 :: (t ++ .lst L :: u ++ w)) := fun w => by simp
        rw [if_t (h1 := c2 :: (t ++ .lst L :: u)) (by simp [e2, hr])]
        generalize hT : t ++ .lst L :: u = T at *
        rw [seq_nx (σ1 := [some (.cel 0), some (.int n), some (.cel (t.length + 1)), some (.cel (T.length + 1)), none]) (h1 := c2 :: (T ++ [.lst L])) (by simp [hsq])]
        have hlen := hlen [.lst L]
        simp only [z_sAsg, z_eLcC, z_lcOf, z_iRng1, z_eCall, z_aCons, z_eVar, z_aNil, List.getElem?_cons_succ, List.getElem?_cons_zero, Res.bind_ok, hlen, hLn, if_true, wipe, List.set_cons_succ, List.set_cons_zero, Int.toNat_natCast, e3, z_noEx, Res.st_ok, z_gNm, z_oNx]
        rw [← hT]
        simp
        omega
      · rw [show (t ++ .lst L :: u).length + 2 = (t ++ .lst L :: u).length + 1 + 1 by omega, List.getElem?_cons_succ]
        have : t ++ (.lst L :: u ++ [.lst []] ++ [.lst ys]) = (t ++ .lst L :: u) ++ HC.lst [] :: .lst ys :: [] := by simp
        rw [this, get_app1]
    · refine ⟨c2, .lst L :: u, L, none, t.length + 1, ?_, by simp, hd2, hL, fun x h => h, fun x h => h⟩
      exact if_no (by simp [e2, hr])
  obtain ⟨c3, u3, M, o3, a, e3, ha, hd3, hM, m1, m2⟩ := ord
  obtain ⟨bs, rfl, hbs⟩ := bs_of fun x hx => hall x (m1 x hx)
  refine ⟨c3, u3, bs, ?_, hd3, by simp at hM; omega, ⟨hbs, fun i hi => ?_⟩⟩
  · refine def_rt rfl ?_
    show sSeq _ _ [some (.cel 0), some (.int n), none, none, none] _ = _
    rw [seq_nx (σ1 := [some (.cel 0), some (.int n), some (.cel (t.length + 1)), none, none]) (h1 := c :: (t ++ [.lst L1])) (by simp [hB, wipe, c0])]
    rw [seq_nx e1, seq_nx e3]
    refine ret_ok ?_
    simp [z_tupleC ha, bsv]
  · obtain ⟨b, hb, e⟩ := List.mem_map.mp (m2 _ (hf i hi))
    rw [hf0] at e
    rw [← bav_inj e]
    exact hb
theorem more_ok {c : HC} {t : AH} {n : Nat} {bs : List B} (hd : Dr c) (hl : bs.length ≤ 500) (ok : Ok n bs) : ∃ c' bs', m__law_more [.cel 0, bsv bs] (c :: t) = .ok (bsv bs') (c' :: t) ∧ Dr c' ∧ bs'.length ≤ bs.length + 1 ∧ Ok n bs' := by
  by_cases h0 : bs.length = 0
  · refine ⟨c, bs, ?_, hd, by omega, ok⟩
    refine def_rt rfl (seq_rt (v := bsv bs) (h1 := c :: t) ?_)
    show sIf _ _ _ [some (.cel 0), some (bsv bs), none, none, none] _ = _
    have hb : bs = [] := List.length_eq_zero_iff.mp h0
    subst hb
    rw [if_t (h1 := c :: t) (by simp [bsv])]
    exact ret_ok (by simp)
  · obtain ⟨k, c1, k0, k1, hd1, e1⟩ := draw_ok (t := t) (many := (bs.length : Int) + 1) hd (by omega) (by omega)
    obtain ⟨x, c2, hx, hd2, e2⟩ := pick_ok (t := t) (v := bsv bs) hd1 (fun c => rfl) (fun z => by cases z) (by simp; omega) (by simp; omega)
    obtain ⟨⟨f, s, g⟩, hb, rfl⟩ := List.mem_map.mp hx
    obtain ⟨w, c3, hw, hd3, e3⟩ := pick_ok (t := t) (v := .lst [.int (-2), .int 0, .int 1, .int 1, .int 5]) hd2 (fun c => rfl) (fun z => by cases z) (by simp) (by simp)
    have hw : isInt w := by
      simp only [List.mem_cons, List.mem_nil_iff, or_false] at hw
      rcases hw with rfl | rfl | rfl | rfl | rfl <;> exact ⟨_, rfl⟩
    obtain ⟨w, rfl⟩ := hw
    obtain ⟨gg, hgg⟩ : ∃ gg : Int, sIf (tB (eOp2 oEq (eOp2 oIx (eVar 3) (eC (.int 0))) (eOp2 oIx (eVar 3) (eC (.int 1))))) (sAsg (eCall cMin2 (aCons (eVar 4) (aCons (eC (.int 0)) (aNil)))) (gNm 4)) (sNx)
        [some (.cel 0), some (bsv bs), some (.int k), some (bav (f, s, g)), some (.int (g + w))] (c3 :: t) = .nx [some (.cel 0), some (bsv bs), some (.int k), some (bav (f, s, g)), some (.int gg)] (c3 :: t) := by
      by_cases hfs : f = s
      · subst hfs
        refine ⟨if 0 < g + w then 0 else g + w, ?_⟩
        rw [if_t (h1 := c3 :: t) (by simp [bav])]
        simp [bav]
      · exact ⟨g + w, if_no (by simp [bav, hfs])⟩
    obtain ⟨A, hA⟩ : ∃ A, bs.take k.toNat = A := ⟨_, rfl⟩
    obtain ⟨C, hC⟩ : ∃ C, bs.drop k.toNat = C := ⟨_, rfl⟩
    have hAC : A ++ C = bs := by rw [← hA, ← hC, List.take_append_drop]
    have ct : cut (bs.map bav) none (some k) = A.map bav := by rw [cut_to k0, ← List.map_take, hA]
    have cf : cut (bs.map bav) (some k) none = C.map bav := by rw [cut_from k0, ← List.map_drop, hC]
    have hlen : A.length + C.length = bs.length := by rw [← hAC]; simp
    have l1 : A.length ≤ 16777215 := by omega
    have l2 : A.length + 1 + C.length ≤ 16777216 := by omega
    refine ⟨c3, A ++ (f, s, gg) :: C, ?_, hd3, (by rw [List.length_append, List.length_cons, ← hlen]; exact Nat.le_refl _), ⟨fun b hb' => ?_, fun i hi => ?_⟩⟩
    · have ht : bsv (A ++ (f, s, gg) :: C) = .tup (A.map bav ++ bav (f, s, gg) :: C.map bav) := by simp [bsv]
      rw [ht]
      have hbn : ((bs.length : Int) == 0) = false := by rw [beq_eq_false_iff_ne]; omega
      have hbn2 : ¬ bs = [] := fun z => h0 (by rw [z]; rfl)
      refine def_rt rfl ?_
      show sSeq _ _ [some (.cel 0), some (bsv bs), none, none, none] _ = _
      rw [seq_nx (σ1 := [some (.cel 0), some (bsv bs), none, none, none]) (h1 := c :: t) (if_no (by simp [bsv, hbn2]))]
      rw [seq_nx (σ1 := [some (.cel 0), some (bsv bs), some (.int k), none, none]) (h1 := c1 :: t) (by simp [bsv] at e1 ⊢; simp [e1])]
      rw [seq_nx (σ1 := [some (.cel 0), some (bsv bs), some (.int k), some (bav (f, s, g)), none]) (h1 := c2 :: t) (by simp [e2])]
      rw [seq_nx (σ1 := [some (.cel 0), some (bsv bs), some (.int k), some (bav (f, s, g)), some (.int (g + w))]) (h1 := c3 :: t) (by simp [e3, bav])]
      rw [seq_nx hgg]
      refine ret_ok ?_
      simp [bav, bsv, ct, cf, l1, l2]
    · rcases List.mem_append.mp hb' with h | h
      · exact ok.lo b (by rw [← hAC]; exact List.mem_append_left _ h)
      · rcases List.mem_cons.mp h with rfl | h
        · exact ok.lo (f, s, g) hb
        · exact ok.lo b (by rw [← hAC]; exact List.mem_append_right _ h)
    · have := ok.all i hi
      rw [← hAC] at this
      rcases List.mem_append.mp this with h | h
      · exact List.mem_append_left _ h
      · exact List.mem_append_right _ (List.mem_cons_of_mem _ h)
/-- what is asked of one row of bounds -/
theorem ask_ok {n : Nat} {bs : List B} (hn : n ≤ 30) (hl : bs.length ≤ 600) (ok : Ok n bs) (σ : AS) (i j : Nat) (hi : σ[i]? = some (some (.int n))) (hj : σ[j]? = some (some (bsv bs))) (h : AH) :
    ∃ u, eCall m__law_is_told (aCons (eVar i) (aCons (eVar j) (aCons (eCall m_starts_of (aCons (eVar i) (aCons (eVar j) (aNil)))) (aNil)))) σ h = .ok (.bl true) (h ++ u) := by
  obtain ⟨u1, v, e1, t⟩ := starts_ok (by omega) (by omega) ok h
  obtain ⟨u2, e2⟩ := told_ok (by omega) (by omega) ok t (h ++ u1)
  refine ⟨u1 ++ u2, ?_⟩
  rw [← List.append_assoc]
  simp [hi, hj, e1, e2]
theorem law_ok : ∀ ns : List Int, ns.length ≤ 63 → ∃ h', m_law [.scr false (ns.map .int)] [] = .ok (.bl true) h' := by
  intro ns hns
  obtain ⟨c, hd, e1⟩ := begin_ok ns hns
  obtain ⟨x, c1, hx, hd1, e2⟩ := pick_ok (t := []) (v := .lst [.int 2, .int 0, .int 1, .int 3, .int 30, .int 4, .int 12, .int 5, .int 7]) hd (fun c => rfl) (fun z => by cases z) (by simp) (by simp)
  have hx : ∃ n : Nat, x = .int n ∧ n ≤ 30 := by
    simp only [List.mem_cons, List.mem_nil_iff, or_false] at hx
    rcases hx with rfl | rfl | rfl | rfl | rfl | rfl | rfl | rfl | rfl
    · exact ⟨2, rfl, by decide⟩
    · exact ⟨0, rfl, by decide⟩
    · exact ⟨1, rfl, by decide⟩
    · exact ⟨3, rfl, by decide⟩
    · exact ⟨30, rfl, by decide⟩
    · exact ⟨4, rfl, by decide⟩
    · exact ⟨12, rfl, by decide⟩
    · exact ⟨5, rfl, by decide⟩
    · exact ⟨7, rfl, by decide⟩
  obtain ⟨n, rfl, hn⟩ := hx
  obtain ⟨c2, u2, bs, e3, hd2, l2, ok2⟩ := bounds_ok (t := []) hd1 hn
  rw [List.nil_append] at e3
  obtain ⟨u3, e4⟩ := ask_ok hn (by omega) ok2 [some (.scr false (ns.map .int)), some (.cel 0), some (.int n), some (bsv bs), none] 2 3 rfl rfl (c2 :: u2)
  obtain ⟨c4, bs', e5, hd4, l4, ok4⟩ := more_ok (t := u2 ++ u3) hd2 (by omega) ok2
  obtain ⟨u5, e6⟩ := ask_ok hn (by omega) ok4 [some (.scr false (ns.map .int)), some (.cel 0), some (.int n), some (bsv bs), some (bsv bs')] 2 4 rfl rfl (c4 :: (u2 ++ u3))
  obtain ⟨u6, e7⟩ := ask_ok hn (by omega) ok2 [some (.scr false (ns.map .int)), some (.cel 0), some (.int n), some (bsv bs), some (bsv bs')] 2 3 rfl rfl (c4 :: (u2 ++ u3) ++ u5)
  refine ⟨c4 :: (u2 ++ u3) ++ u5 ++ u6, def_rt rfl ?_⟩
  show sSeq _ _ [some (.scr false (ns.map .int)), none, none, none, none] _ = _
  rw [seq_nx (σ1 := [some (.scr false (ns.map .int)), some (.cel 0), none, none, none]) (h1 := [c]) (by simp [e1])]
  rw [seq_nx (σ1 := [some (.scr false (ns.map .int)), some (.cel 0), some (.int n), none, none]) (h1 := [c1]) (by simp [e2])]
  rw [seq_nx (σ1 := [some (.scr false (ns.map .int)), some (.cel 0), some (.int n), some (bsv bs), none]) (h1 := c2 :: u2) (by simp [e3])]
  have t1 : tNot (tB (eCall m__law_is_told (aCons (eVar 2) (aCons (eVar 3) (aCons (eCall m_starts_of (aCons (eVar 2) (aCons (eVar 3) (aNil)))) (aNil)))))) [some (.scr false (ns.map .int)), some (.cel 0), some (.int n), some (bsv bs), none] (c2 :: u2) = .ok false (c2 :: (u2 ++ u3)) := by
    rw [z_tNot, z_tB, e4]
    rfl
  rw [seq_nx (if_no t1)]
  rw [seq_nx (σ1 := [some (.scr false (ns.map .int)), some (.cel 0), some (.int n), some (bsv bs), some (bsv bs')]) (h1 := c4 :: (u2 ++ u3)) (by simp [e5])]
  have t2 : tNot (tB (eCall m__law_is_told (aCons (eVar 2) (aCons (eVar 4) (aCons (eCall m_starts_of (aCons (eVar 2) (aCons (eVar 4) (aNil)))) (aNil)))))) [some (.scr false (ns.map .int)), some (.cel 0), some (.int n), some (bsv bs), some (bsv bs')] (c4 :: (u2 ++ u3)) = .ok false (c4 :: (u2 ++ u3) ++ u5) := by
    rw [z_tNot, z_tB, e6]
    rfl
  rw [seq_nx (if_no t2)]
  exact ret_ok e7
end Lk74

end

section
open PySem PySem.W PyProof.Rows MiS Lk74
set_option maxRecDepth 100000 in
set_option maxHeartbeats 0 in
theorem PySem.Challenge.cw_deedoath_k74_starts_told_holds : PySem.Challenge.rw_deedoath_k74_starts_told.Holds := by
  w_on; o_law; k_head; (case hw => w_witness2)
  k_fill
  refine L2.walk_of (l := PySem.Challenge.rw_deedoath_k74_starts_told) (n := 63) (k := 13) (x := "script") (CX := fun w => L2.CX PySem.Challenge.pw_deedoath_k74_starts_told w) (sp := fun w => spLaw 63 _) rfl (by decide) rfl ⟨rfl, by decide, by decide⟩ (fun w h Y => PySem.W.kIn_of Y) ?F (fun w H a ns hl hO hS => spLaw_here H a ns hl hO hS) (fun w H s e s' h => cx_none H s e s' h)
  case F =>
    intro w mg fa h KX G hmg
    have b_abs := mg_none_of (n := "abs") KX G (by k_is)
    have b_bool := mg_none_of (n := "bool") KX G (by k_is)
    have b_int := mg_none_of (n := "int") KX G (by k_is)
    have b_isinstance := mg_none_of (n := "isinstance") KX G (by k_is)
    have b_len := mg_none_of (n := "len") KX G (by k_is)
    have b_list := mg_none_of (n := "list") KX G (by k_is)
    have b_max := mg_none_of (n := "max") KX G (by k_is)
    have b_min := mg_none_of (n := "min") KX G (by k_is)
    have b_range := mg_none_of (n := "range") KX G (by k_is)
    have b_str := mg_none_of (n := "str") KX G (by k_is)
    have b_tuple := mg_none_of (n := "tuple") KX G (by k_is)
    have d__law_begin := df_mk (x := "_law_begin") (st := st__law_begin) (ps := ["script"]) KX G (by k_is) (by k_is) (by k_is) (by k_is) fun _ _ _ _ _ _ us hl => match us, hl with | [_], _ => rfl
    have d__law_draw := df_mk (x := "_law_draw") (st := st__law_draw) (ps := ["d", "many"]) KX G (by k_is) (by k_is) (by k_is) (by k_is) fun _ _ _ _ _ _ us hl => match us, hl with | [_, _], _ => rfl
    have d__law_pick := df_mk (x := "_law_pick") (st := st__law_pick) (ps := ["d", "row"]) KX G (by k_is) (by k_is) (by k_is) (by k_is) fun _ _ _ _ _ _ us hl => match us, hl with | [_, _], _ => rfl
    have d__law_pop := df_mk (x := "_law_pop") (st := st__law_pop) (ps := ["d", "row"]) KX G (by k_is) (by k_is) (by k_is) (by k_is) fun _ _ _ _ _ _ us hl => match us, hl with | [_, _], _ => rfl
    have d__law_long_bounds := df_mk (x := "_law_long_bounds") (st := st__law_long_bounds) (ps := ["d", "many"]) KX G (by k_is) (by k_is) (by k_is) (by k_is) fun _ _ _ _ _ _ us hl => match us, hl with | [_, _], _ => rfl
    have d__law_marks := df_mk (x := "_law_marks") (st := st__law_marks) (ps := ["d", "many"]) KX G (by k_is) (by k_is) (by k_is) (by k_is) fun _ _ _ _ _ _ us hl => match us, hl with | [_, _], _ => rfl
    have d__law_any_bounds := df_mk (x := "_law_any_bounds") (st := st__law_any_bounds) (ps := ["d", "many"]) KX G (by k_is) (by k_is) (by k_is) (by k_is) fun _ _ _ _ _ _ us hl => match us, hl with | [_, _], _ => rfl
    have d__law_bounds := df_mk (x := "_law_bounds") (st := st__law_bounds) (ps := ["d", "many"]) KX G (by k_is) (by k_is) (by k_is) (by k_is) fun _ _ _ _ _ _ us hl => match us, hl with | [_, _], _ => rfl
    have d__law_more := df_mk (x := "_law_more") (st := st__law_more) (ps := ["d", "bounds"]) KX G (by k_is) (by k_is) (by k_is) (by k_is) fun _ _ _ _ _ _ us hl => match us, hl with | [_, _], _ => rfl
    have d__law_starts := df_mk (x := "_law_starts") (st := st__law_starts) (ps := ["many", "bounds"]) KX G (by k_is) (by k_is) (by k_is) (by k_is) fun _ _ _ _ _ _ us hl => match us, hl with | [_, _], _ => rfl
    have d__law_gaps := df_mk (x := "_law_gaps") (st := st__law_gaps) (ps := ["bounds"]) KX G (by k_is) (by k_is) (by k_is) (by k_is) fun _ _ _ _ _ _ us hl => match us, hl with | [_], _ => rfl
    have d__law_is_int := df_mk (x := "_law_is_int") (st := st__law_is_int) (ps := ["thing"]) KX G (by k_is) (by k_is) (by k_is) (by k_is) fun _ _ _ _ _ _ us hl => match us, hl with | [_], _ => rfl
    have d__law_same := df_mk (x := "_law_same") (st := st__law_same) (ps := ["one", "other"]) KX G (by k_is) (by k_is) (by k_is) (by k_is) fun _ _ _ _ _ _ us hl => match us, hl with | [_, _], _ => rfl
    have d__law_along := df_mk (x := "_law_along") (st := st__law_along) (ps := ["gaps", "row"]) KX G (by k_is) (by k_is) (by k_is) (by k_is) fun _ _ _ _ _ _ us hl => match us, hl with | [_, _], _ => rfl
    have d__law_is_steps := df_mk (x := "_law_is_steps") (st := st__law_is_steps) (ps := ["many", "row"]) KX G (by k_is) (by k_is) (by k_is) (by k_is) fun _ _ _ _ _ _ us hl => match us, hl with | [_, _], _ => rfl
    have d__law_is_ring := df_mk (x := "_law_is_ring") (st := st__law_is_ring) (ps := ["many", "gaps", "ring"]) KX G (by k_is) (by k_is) (by k_is) (by k_is) fun _ _ _ _ _ _ us hl => match us, hl with | [_, _, _], _ => rfl
    have d__law_is_chain := df_mk (x := "_law_is_chain") (st := st__law_is_chain) (ps := ["many", "gaps", "chain", "step", "time"]) KX G (by k_is) (by k_is) (by k_is) (by k_is) fun _ _ _ _ _ _ us hl => match us, hl with | [_, _, _, _, _], _ => rfl
    have d__law_is_told := df_mk (x := "_law_is_told") (st := st__law_is_told) (ps := ["many", "bounds", "told"]) KX G (by k_is) (by k_is) (by k_is) (by k_is) fun _ _ _ _ _ _ us hl => match us, hl with | [_, _, _], _ => rfl
    have d_pass_over := df_mk (x := "pass_over") (st := st_pass_over) (ps := ["bounds", "starts", "parents"]) KX G (by k_is) (by k_is) (by k_is) (by k_is) fun _ _ _ _ _ _ us hl => match us, hl with | [_, _, _], _ => rfl
    have d_ring_from := df_mk (x := "ring_from") (st := st_ring_from) (ps := ["parents", "step", "many"]) KX G (by k_is) (by k_is) (by k_is) (by k_is) fun _ _ _ _ _ _ us hl => match us, hl with | [_, _, _], _ => rfl
    have d_chain_to := df_mk (x := "chain_to") (st := st_chain_to) (ps := ["parents", "step", "many"]) KX G (by k_is) (by k_is) (by k_is) (by k_is) fun _ _ _ _ _ _ us hl => match us, hl with | [_, _, _], _ => rfl
    have d_starts_of := df_mk (x := "starts_of") (st := st_starts_of) (ps := ["many", "bounds"]) KX G (by k_is) (by k_is) (by k_is) (by k_is) fun _ _ _ _ _ _ us hl => match us, hl with | [_, _], _ => rfl
    have d_law := df_mk (x := "law") (st := st_law) (ps := ["script"]) KX G (by k_is) (by k_is) (by k_is) (by k_is) fun _ _ _ _ _ _ us hl => match us, hl with | [_], _ => rfl
    have T : Txt PySem.Challenge.pw_deedoath_k74_starts_told (L2.KOf KX) mg (clOf []) := {
      b_abs := b_abs
      b_bool := b_bool
      b_int := b_int
      b_isinstance := b_isinstance
      b_len := b_len
      b_list := b_list
      b_max := b_max
      b_min := b_min
      b_range := b_range
      b_str := b_str
      b_tuple := b_tuple
      d__law_begin := d__law_begin
      d__law_draw := d__law_draw
      d__law_pick := d__law_pick
      d__law_pop := d__law_pop
      d__law_long_bounds := d__law_long_bounds
      d__law_marks := d__law_marks
      d__law_any_bounds := d__law_any_bounds
      d__law_bounds := d__law_bounds
      d__law_more := d__law_more
      d__law_starts := d__law_starts
      d__law_gaps := d__law_gaps
      d__law_is_int := d__law_is_int
      d__law_same := d__law_same
      d__law_along := d__law_along
      d__law_is_steps := d__law_is_steps
      d__law_is_ring := d__law_is_ring
      d__law_is_chain := d__law_is_chain
      d__law_is_told := d__law_is_told
      d_pass_over := d_pass_over
      d_ring_from := d_ring_from
      d_chain_to := d_chain_to
      d_starts_of := d_starts_of
      d_law := d_law
      }
    exact law_fd hmg T.d_law (fun _ _ _ _ _ _ s u => .of_eq rfl) (fun base f fd F => ok_law T F) law_ok

end
