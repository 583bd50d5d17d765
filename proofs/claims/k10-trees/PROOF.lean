import PyProof.Rows.All
import PyProof.ReprLen
import Wide.All
import OpenK.AllK
import Wide.FinOn
import HandS.ForMost
import HandS.Walk
import HandS.WordsExc
import HandS.Style
import HandS.Wide
import HandS.Comp
import HandS.HotCalls
import HandS.ExcIs
import HandS.Codes
import HandS.Sort
import HandS.TryOnly
import HandS.Exc
import HandS.ExcOwn
import PySem.Challenge.RW_graftworth_k10_kinds_and_trees
/-! Mini: a small Python over plain data: data, places, results, a program's text, its evaluator. -/
set_option Elab.async false
set_option linter.all false
namespace Mini

def SZ : Nat := 16777216

inductive D where
  | non | bl (b : Bool) | int (i : Int) | str (s : List Nat)
  | tup (xs : List D) | lst (xs : List D) | dct (kvs : List (D × D)) | obj (c : Nat) (fs : List D)
  deriving Inhabited

/-- an exception: the number of its class, its arguments -/
structure Ex where
  cls : Nat
  args : List D
/-- a place: nothing; a value; a list of its own; a list that the caller lent to be changed; one that is lent to be read; the script; the exception that is handled -/
inductive Sl where
  | no | val (d : D) | own (d : D) | bor (d : D) | ro (d : D) | st (d : D) | err (x : Ex)
  deriving Inhabited
abbrev Ev := List Sl
inductive Out where
  | val (d : D) | own (d : D)
def Out.d : Out → D
  | .val d => d
  | .own d => d
inductive Res (α : Type) where
  | bad | ok (a : α) (e : Ev) | exc (x : Ex) (e : Ev)
def Res.bind {α β : Type} : Res α → (α → Ev → Res β) → Res β
  | .bad, _ => .bad
  | .ok a e, k => k a e
  | .exc x e, _ => .exc x e
@[simp] theorem Res.bind_bad {α β : Type} (k : α → Ev → Res β) : Res.bind .bad k = .bad := rfl
@[simp] theorem Res.bind_ok {α β : Type} (a : α) (e : Ev) (k : α → Ev → Res β) : Res.bind (.ok a e) k = k a e := rfl
@[simp] theorem Res.bind_exc {α β : Type} (x : Ex) (e : Ev) (k : α → Ev → Res β) : Res.bind (.exc x e) k = .exc x e := rfl

/-! ### what is done with values -/
inductive Pr where
  | add | sub | mul | fdiv | mod | pow | neg
  | eq | ne | lt | le | gt | ge | isin | notin | isN | notN | isB | notB
  | ix
  | tup | lst
  | len | abs | int | str | list | sum | max | min | any | all | repr | inR | ord
  deriving DecidableEq, Repr

def ixN (n : Nat) (i : Int) : Option Nat := if 0 ≤ i then (if i < n then some i.toNat else none) else if -(n : Int) ≤ i then some (i + n).toNat else none
def atI {α : Type} (xs : List α) (i : Int) : Option α := (ixN xs.length i).bind fun j => xs[j]?

/-- the place that a bound of a slice means -/
def sIx (n d : Nat) : Option Int → Nat
  | none => d
  | some i => if i < 0 then (i + n).toNat else min i.toNat n
def cut {α : Type} (xs : List α) (lo hi : Option Int) : List α := (xs.drop (sIx xs.length 0 lo)).take (sIx xs.length xs.length hi - sIx xs.length 0 lo)

mutual
/-- Python's == -/
def deq : D → D → Bool
  | .non, .non => true
  | .bl a, .bl b => a == b
  | .bl a, .int j => (if a then 1 else 0) == j
  | .int i, .bl b => i == (if b then 1 else 0)
  | .int i, .int j => i == j
  | .str x, .str y => x == y
  | .lst xs, .lst ys => deqL xs ys
  | .tup xs, .tup ys => deqL xs ys
  | _, _ => false
def deqL : List D → List D → Bool
  | [], [] => true
  | x :: xs, y :: ys => deq x y && deqL xs ys
  | _, _ => false
end
mutual
/-- data of none, bools, ints, texts, lists and tuples, nested at most n deep -/
def plain : Nat → D → Bool
  | _, .non => true
  | _, .bl _ => true
  | _, .int _ => true
  | _, .str _ => true
  | n + 1, .lst xs => plainL n xs
  | n + 1, .tup xs => plainL n xs
  | _, _ => false
def plainL : Nat → List D → Bool
  | _, [] => true
  | n, x :: xs => plain n x && plainL n xs
end
/-- none, a bool, an int or a text -/
def flat : D → Bool
  | .non => true
  | .bl _ => true
  | .int _ => true
  | .str _ => true
  | _ => false
def truD : D → Option Bool
  | .non => some false
  | .bl b => some b
  | .int i => some (i != 0)
  | .str s => some (!s.isEmpty)
  | .lst xs => some (!xs.isEmpty)
  | .tup xs => some (!xs.isEmpty)
  | _ => none
def intsD : List D → Option (List Int)
  | [] => some []
  | .int i :: r => (intsD r).map (i :: ·)
  | _ :: _ => none
def blsD : List D → Option (List Bool)
  | [] => some []
  | .bl i :: r => (blsD r).map (i :: ·)
  | _ :: _ => none
def strsD : List D → Option (List (List Nat))
  | [] => some []
  | .str i :: r => (strsD r).map (i :: ·)
  | _ :: _ => none
def isNon : D → Bool
  | .non => true
  | _ => false
def isInt : D → Bool
  | .int _ => true
  | _ => false

def mulOk (i j : Int) : Bool := decide (i.natAbs.log2 + j.natAbs.log2 < 1000000)
def divOk (j : Int) : Bool := decide (j ≠ 0) && decide (j.natAbs.log2 < 9000)
def powOk (i j : Int) : Bool := decide (0 ≤ j) && decide (j ≤ 1000000) && decide (i.natAbs < 2 ^ 64)
def strI (i : Int) : List Nat := ((toString i : String).toList.map Char.toNat)
def joinL (sep : List Nat) : List (List Nat) → List Nat
  | [] => []
  | [x] => x
  | x :: y :: r => x ++ sep ++ joinL sep (y :: r)

/-- a text of digits alone; what it is worth -/
def digsOk (s : List Nat) : Bool := !s.isEmpty && decide (s.length ≤ 640) && s.all fun c => decide (48 ≤ c) && decide (c ≤ 57)
def digVal (s : List Nat) : Nat := s.foldl (fun n c => n * 10 + (c - 48)) 0
/-- a text cut at a sign -/
def splitL (c : Nat) : List Nat → List (List Nat)
  | [] => [[]]
  | d :: r => if d = c then [] :: splitL c r else match splitL c r with
    | p :: ps => (d :: p) :: ps
    | [] => [[d]]
def sOf (s : List Nat) : PySem.Str := ⟨s.toArray⟩
/-! data as the library's -/
mutual
def toPy : D → PySem.PyData
  | .non => .none
  | .bl b => .bool b
  | .int i => .int i
  | .str s => .str (sOf s)
  | .lst xs => .list (toPyL xs)
  | .tup xs => .tuple (toPyL xs)
  | _ => .none
def toPyL : List D → List PySem.PyData
  | [] => []
  | x :: xs => toPy x :: toPyL xs
end
/-- repr -/
def reprD (d : D) : List Nat := (toPy d).shown.cps.toList
mutual
/-- no repr is longer -/
def rsz : D → Nat
  | .non => 8
  | .bl _ => 8
  | .int _ => 1921
  | .str s => 10 * s.length + 2
  | .lst xs => rszL xs + 3
  | .tup xs => rszL xs + 3
  | _ => 0
def rszL : List D → Nat
  | [] => 0
  | x :: xs => rsz x + 2 + rszL xs
end
mutual
/-- ints that can be shown -/
def shows : D → Bool
  | .int i => decide (i.natAbs.log2 < 1920)
  | .lst xs => showsL xs
  | .tup xs => showsL xs
  | _ => true
def showsL : List D → Bool
  | [] => true
  | x :: xs => shows x && showsL xs
end

def prim : Pr → List D → Option Out
  | .add, [.int a, .int b] => some (.val (.int (a + b)))
  | .add, [.str a, .str b] => if a.length + b.length ≤ SZ then some (.val (.str (a ++ b))) else none
  | .add, [.lst a, .lst b] => if a.length + b.length ≤ SZ then some (.own (.lst (a ++ b))) else none
  | .sub, [.int a, .int b] => some (.val (.int (a - b)))
  | .mul, [.int a, .int b] => if mulOk a b then some (.val (.int (a * b))) else none
  | .mul, [.lst a, .int k] => if decide (-(2 ^ 63) ≤ k) && decide (k < 2 ^ 63) && decide (a.length * k.toNat ≤ SZ) then some (.own (.lst (List.replicate k.toNat a).flatten)) else none
  | .mul, [.str a, .int k] => if decide (-(2 ^ 63) ≤ k) && decide (k < 2 ^ 63) && decide (a.length * k.toNat ≤ SZ) then some (.val (.str (List.replicate k.toNat a).flatten)) else none
  | .fdiv, [.int a, .int b] => if divOk b then some (.val (.int (a.fdiv b))) else none
  | .mod, [.int a, .int b] => if decide (b ≠ 0) then some (.val (.int (a.fmod b))) else none
  | .pow, [.int a, .int b] => if powOk a b then some (.val (.int (a ^ b.toNat))) else none
  | .neg, [.int a] => some (.val (.int (-a)))
  | .eq, [a, b] => if plain 60 a && plain 60 b then some (.val (.bl (deq a b))) else none
  | .ne, [a, b] => if plain 60 a && plain 60 b then some (.val (.bl (!deq a b))) else none
  | .lt, [.int a, .int b] => some (.val (.bl (decide (a < b))))
  | .le, [.int a, .int b] => some (.val (.bl (decide (a ≤ b))))
  | .gt, [.int a, .int b] => some (.val (.bl (decide (b < a))))
  | .ge, [.int a, .int b] => some (.val (.bl (decide (b ≤ a))))
  | .lt, [.str a, .str b] => some (.val (.bl (decide (a < b))))
  | .le, [.str a, .str b] => some (.val (.bl (!decide (b < a))))
  | .gt, [.str a, .str b] => some (.val (.bl (decide (b < a))))
  | .ge, [.str a, .str b] => some (.val (.bl (!decide (a < b))))
  | .isin, [.str [c], .str z] => some (.val (.bl (decide (c ∈ z))))
  | .notin, [.str [c], .str z] => some (.val (.bl (!decide (c ∈ z))))
  | .isin, [x, .lst ys] => if flat x && ys.all flat then some (.val (.bl (ys.any fun y => deq y x))) else none
  | .isin, [x, .tup ys] => if flat x && ys.all flat then some (.val (.bl (ys.any fun y => deq y x))) else none
  | .notin, [x, .lst ys] => if flat x && ys.all flat then some (.val (.bl (!ys.any fun y => deq y x))) else none
  | .notin, [x, .tup ys] => if flat x && ys.all flat then some (.val (.bl (!ys.any fun y => deq y x))) else none
  | .inR, [.int i, .int n] => some (.val (.bl (decide (0 ≤ i) && decide (i < n))))
  | .isN, [x] => some (.val (.bl (isNon x)))
  | .notN, [x] => some (.val (.bl (!isNon x)))
  | .isB, [.bl a, .bl b] => some (.val (.bl (decide (a = b))))
  | .notB, [.bl a, .bl b] => some (.val (.bl (!decide (a = b))))
  | .ix, [.lst xs, .int i] => (atI xs i).map .val
  | .ix, [.tup xs, .int i] => (atI xs i).map .val
  | .ix, [.str s, .int i] => (atI s i).map fun c => .val (.str [c])
  | .tup, xs => if xs.length ≤ SZ then some (.val (.tup xs)) else none
  | .lst, xs => if xs.length ≤ SZ then some (.own (.lst xs)) else none
  | .len, [.lst xs] => some (.val (.int xs.length))
  | .len, [.tup xs] => some (.val (.int xs.length))
  | .len, [.str s] => some (.val (.int s.length))
  | .abs, [.int a] => some (.val (.int (if a < 0 then -a else a)))
  | .int, [.int a] => some (.val (.int a))
  | .int, [.bl b] => some (.val (.int (if b then 1 else 0)))
  | .int, [.str s] => if digsOk s then some (.val (.int (digVal s))) else none
  | .ord, [.str [c]] => some (.val (.int c))
  | .str, [.int a] => if decide (a.natAbs.log2 < 1920) then some (.val (.str (strI a))) else none
  | .repr, [d] => if shows d && plain 60 d && decide (rsz d ≤ SZ) then some (.val (.str (reprD d))) else none
  | .list, [.lst xs] => some (.own (.lst xs))
  | .list, [.tup xs] => some (.own (.lst xs))
  | .sum, [.lst xs] => (intsD xs).map fun ns => .val (.int ns.sum)
  | .any, [.lst xs] => (blsD xs).map fun bs => .val (.bl (bs.any id))
  | .all, [.lst xs] => (blsD xs).map fun bs => .val (.bl (bs.all id))
  | _, _ => none
/-- what a value that is used needs: 0 to be read, 1 a list of the heap, 2 a value that may be kept -/
def Pr.need : Pr → Nat
  | .tup => 2
  | .lst => 2
  | .add => 1
  | .mul => 1
  | .isN => 2
  | .notN => 2
  | _ => 0

/-- methods that change nothing -/
inductive Mt where
  | index | split | join | scount | sfind | sindex | lcount
  deriving DecidableEq
def recvTy : Mt → Option D → Bool
  | .index, some (.lst _) => true
  | .split, some (.str _) => true
  | .join, some (.str _) => true
  | .scount, some (.str _) => true
  | .sfind, some (.str _) => true
  | .sindex, some (.str _) => true
  | .lcount, some (.lst _) => true
  | _, _ => false
def methIndex : D → List D → Option Out
  | .lst ys, [x] => if flat x && ys.all flat then (match ys.findIdx? (fun y => deq y x) with | some j => some (.val (.int j)) | none => none) else none
  | _, _ => none
def methSplit : D → List D → Option Out
  | .str a, [.str [c]] => if a.length + 2 ≤ SZ then some (.own (.lst ((splitL c a).map .str))) else none
  | _, _ => none
def methJoin : D → List D → Option Out
  | .str a, [.lst xs] => match strsD xs with
    | some ys => if (ys.map (·.length)).sum + ys.length * a.length ≤ SZ then some (.val (.str (joinL a ys))) else none
    | none => none
  | _, _ => none
/-- find -/
def findF (z : List Nat) (c : Nat) : Int := match z.findIdx? (· == c) with
  | some j => (j : Int)
  | none => -1
def methSCount : D → List D → Option Out
  | .str a, [.str [c]] => some (.val (.int ((a.count c : Nat) : Int)))
  | _, _ => none
def methSFind : D → List D → Option Out
  | .str a, [.str [c]] => some (.val (.int (findF a c)))
  | _, _ => none
def methSIndex : D → List D → Option Out
  | .str a, [.str [c]] => match a.findIdx? (· == c) with
    | some j => some (.val (.int (j : Int)))
    | none => none
  | _, _ => none
def methLCount : D → List D → Option Out
  | .lst ys, [x] => if flat x && ys.all flat then some (.val (.int ((ys.countP (fun y => deq y x) : Nat) : Int))) else none
  | _, _ => none
def methF : Mt → D → List D → Option Out
  | .index => methIndex
  | .split => methSplit
  | .join => methJoin
  | .scount => methSCount
  | .sfind => methSFind
  | .sindex => methSIndex
  | .lcount => methLCount

/-! ### the text -/
inductive Pat where
  | nm (i : Nat) | tup (ps : List Pat)
  deriving Inhabited
inductive ItK where
  | seq | rng1 | rng2 | rng3 | enum | zip
  deriving DecidableEq
inductive Mu where
  | append | extend | pop | reverse
  deriving DecidableEq
inductive E where
  | v (i : Nat) | mv (i : Nat) | fz (i : Nat) | rd (i : Nat)
  | k (d : D) | g (x : Nat)
  | pr (p : Pr) (es : List E)
  | chain (c1 c2 : Pr) (a b c : E)
  | and (a b : E) | or (a b : E) | not (a : E)
  | truth (a : E)
  | ite (c a b : E)
  | slc (a : E) (lo hi : Option E)
  | meth (m : Mt) (a : E) (es : List E)
  | call (f : Nat) (es : List E)
  | callx (fs : List Nat) (ix : E) (es : List E)
  | isi (i m : Nat) (ns : List Nat)
  | mu (m : Mu) (i : Nat) (es : List E)
  | comp (own : List Nat) (pat : Pat) (it : ItK) (src : List E) (cond : Option E) (elt : E)
  deriving Inhabited
inductive S where
  | set (p : Pat) (e : E)
  | par (is : List Nat) (es : List E)
  | aug (i : Nat) (p : Pr) (e : E)
  | stx (i : Nat) (k e : E)
  | augx (i : Nat) (p : Pr) (k e : E)
  | ex (e : E)
  | ret (e : E) | retN
  | if_ (c : E) (a b : List S)
  | for_ (pat : Pat) (it : ItK) (src : List E) (body : List S)
  | whl (fuel : Ev → Nat) (c : E) (body : List S)
  | brk | cnt | pass
  | rai (c : Nat)
  | tryc (body : List S) (hd : List (List Nat × Option Nat)) (suites : List (List S))
  | wipe (is : List Nat)
  deriving Inhabited

/-! ### defs -/
inductive Mode where
  | val | ro | bor | st | err
  deriving DecidableEq
inductive FO where
  | val (d : D) | own (d : D) | exc (x : Ex)
/-- what a call gives: its value, what the lent lists hold behind it -/
structure FRes where
  out : FO
  back : List D
structure Fn where
  modes : List Mode
  dflt : List D
  mf : List D → Option FRes

/-! ### values that are used -/
inductive Opd where
  | dv (d : D) | sl (i : Nat)
def Ev.at (e : Ev) (i : Nat) : Sl := e.getD i .no
def Sl.mut : Sl → Bool
  | .own _ => true
  | .bor _ => true
  | _ => false
def Sl.listy : Sl → Bool
  | .own _ => true
  | .bor _ => true
  | .ro _ => true
  | _ => false
/-- a list may be read there -/
def Sl.rdy : Sl → Bool
  | .st _ => true
  | s => s.listy
def Opd.get (e : Ev) : Opd → Nat → Option D
  | .dv d, _ => some d
  | .sl i, n => match e.at i with
    | .own d => if n ≤ 1 then some d else none
    | .bor d => if n ≤ 1 then some d else none
    | .ro d => if n ≤ 1 then some d else none
    | .st d => if n = 0 then some d else none
    | _ => none
def opds (e : Ev) (n : Nat) : List Opd → Option (List D)
  | [] => some []
  | o :: r => match o.get e n, opds e n r with
    | some d, some ds => some (d :: ds)
    | _, _ => none
/-- what is walked stays: frozen, lent to be read, or the script -/
def Opd.stay (e : Ev) : Opd → Option D
  | .dv d => some d
  | .sl i => match e.at i with
    | .ro d => some d
    | .st d => some d
    | _ => none
def stays (e : Ev) : List Opd → Option (List D)
  | [] => some []
  | o :: r => match o.stay e, stays e r with
    | some d, some ds => some (d :: ds)
    | _, _ => none
/-- the arguments of a call, by the modes -/
def argGet (e : Ev) : Mode → Opd → Option D
  | .val, .dv d => some d
  | .val, .sl _ => none
  | .ro, o => match o.get e 1 with
    | some (.lst xs) => some (.lst xs)
    | _ => none
  | .st, .sl i => match e.at i with
    | .st d => some d
    | _ => none
  | .st, .dv _ => none
  | .bor, .sl i => match e.at i with
    | .own d => some d
    | .bor d => some d
    | _ => none
  | .bor, .dv _ => none
  | .err, .sl i => match e.at i with
    | .err x => some (.obj x.cls x.args)
    | _ => none
  | .err, .dv _ => none
def argsGet (e : Ev) : List Mode → List Opd → Option (List D)
  | [], [] => some []
  | m :: ms, o :: os => match argGet e m o, argsGet e ms os with
    | some d, some ds => some (d :: ds)
    | _, _ => none
  | _, _ => none
/-- the places that are lent to be changed -/
def bors : List Mode → List Opd → List Nat
  | .bor :: ms, .sl i :: os => i :: bors ms os
  | _ :: ms, _ :: os => bors ms os
  | _, _ => []
/-- the places of all lists that are lent -/
def lsl : List Mode → List Opd → List Nat
  | .bor :: ms, .sl i :: os => i :: lsl ms os
  | .ro :: ms, .sl i :: os => i :: lsl ms os
  | _ :: ms, _ :: os => lsl ms os
  | _, _ => []
/-- no place that is lent to be changed stands twice -/
def apart : List Mode → List Opd → Bool
  | .bor :: ms, .sl i :: os => !(lsl ms os).contains i && apart ms os
  | .ro :: ms, .sl i :: os => !(bors ms os).contains i && apart ms os
  | _ :: ms, _ :: os => apart ms os
  | _, _ => true
def putBack (e : Ev) : List Nat → List D → Option Ev
  | [], [] => some e
  | i :: is, d :: ds => match e.at i with
    | .own _ => putBack (e.set i (.own d)) is ds
    | .bor _ => putBack (e.set i (.bor d)) is ds
    | _ => none
  | _, _ => none
def asVal : Out → D
  | .val d => d
  | .own d => d

/-! a value is put into names -/
mutual
def put : Pat → D → Ev → Option Ev
  | .nm i, d, e => match e.at i with
    | .bor _ => none
    | _ => if i < e.length then some (e.set i (.val d)) else none
  | .tup ps, .tup ds, e => putL ps ds e
  | .tup ps, .lst ds, e => putL ps ds e
  | .tup _, _, _ => none
def putL : List Pat → List D → Ev → Option Ev
  | [], [], e => some e
  | p :: ps, d :: ds, e => match put p d e with
    | some e' => putL ps ds e'
    | none => none
  | _, _, _ => none
end
def putOut : Pat → Out → Ev → Option Ev
  | .nm i, .own d, e => match e.at i with
    | .bor _ => none
    | _ => if i < e.length then some (e.set i (.own d)) else none
  | p, o, e => put p o.d e

/-! ### loops -/
def rangeL (lo step : Int) : Nat → List D
  | 0 => []
  | n + 1 => .int lo :: rangeL (lo + step) step n
def zipD : List D → List D → List D
  | x :: xs, y :: ys => .tup [x, y] :: zipD xs ys
  | _, _ => []
def enumD : Nat → List D → List D
  | _, [] => []
  | n, x :: xs => .tup [.int n, x] :: enumD (n + 1) xs
def small62 (i : Int) : Bool := decide (-(2 ^ 62) ≤ i) && decide (i < 2 ^ 62)
def items : ItK → List D → Option (List D)
  | .seq => fun ds => match ds with
    | [.lst xs] => some xs
    | [.tup xs] => some xs
    | [.str s] => some (s.map fun c => .str [c])
    | _ => none
  | .rng1 => fun ds => match ds with
    | [.int n] => if small62 n then some (rangeL 0 1 n.toNat) else none
    | _ => none
  | .rng2 => fun ds => match ds with
    | [.int a, .int b] => if small62 a && small62 b then some (rangeL a 1 (b - a).toNat) else none
    | _ => none
  | .enum => fun ds => match ds with
    | [.lst xs] => some (enumD 0 xs)
    | _ => none
  | .zip => fun ds => match ds with
    | [.lst xs, .lst ys] => some (zipD xs ys)
    | _ => none
  | .rng3 => fun _ => none
def muL : Mu → List D → List D → Option (List D × D)
  | .append => fun xs es => match es with
    | [y] => if xs.length < SZ then some (xs ++ [y], .non) else none
    | _ => none
  | .extend => fun xs es => match es with
    | [.lst ys] => if xs.length + ys.length ≤ SZ then some (xs ++ ys, .non) else none
    | _ => none
  | .pop => fun xs es => match es with
    | [] => (match xs.getLast? with
      | some y => some (xs.dropLast, y)
      | none => none)
    | _ => none
  | .reverse => fun xs es => match es with
    | [] => some (xs.reverse, .non)
    | _ => none
def setOwn (e : Ev) (i : Nat) (d : D) : Option Ev := match e.at i with
  | .own _ => some (e.set i (.own d))
  | .bor _ => some (e.set i (.bor d))
  | _ => none
def getOwn (e : Ev) (i : Nat) : Option D := match e.at i with
  | .own d => some d
  | .bor d => some d
  | _ => none
/-- the places of a comprehension's own names are emptied -/
def wipeE (e : Ev) : List Nat → Option Ev
  | [] => some e
  | i :: is => match wipeE e is with
    | some e' => (match e'.at i with
      | .bor _ => none
      | _ => some (e'.set i .no))
    | none => none

def compRun (body : D → Ev → Res (Option D)) : List D → List D → Ev → Res (List D)
  | [], acc, e => .ok acc e
  | x :: xs, acc, e => (body x e).bind fun r e' => match r with
    | some y => if acc.length < SZ then compRun body xs (acc ++ [y]) e' else .bad
    | none => compRun body xs acc e'

/-! ### the evaluator of expressions -/
def toV : Res Out → Res D
  | .bad => .bad
  | .ok o e => .ok o.d e
  | .exc x e => .exc x e
@[simp] theorem toV_bad : toV .bad = .bad := rfl
@[simp] theorem toV_ok (o : Out) (e : Ev) : toV (.ok o e) = .ok o.d e := rfl
@[simp] theorem toV_exc (x : Ex) (e : Ev) : toV (.exc x e) = .exc x e := rfl
@[simp] theorem Out.d_val (d : D) : (Out.val d).d = d := rfl
@[simp] theorem Out.d_own (d : D) : (Out.own d).d = d := rfl
/-- a value as a bool -/
def toB : Res Out → Res Bool
  | .ok (.val (.bl k)) e => .ok k e
  | .exc x e => .exc x e
  | _ => .bad
@[simp] theorem toB_bad : toB .bad = .bad := rfl
@[simp] theorem toB_ok (k : Bool) (e : Ev) : toB (.ok (.val (.bl k)) e) = .ok k e := rfl
@[simp] theorem toB_exc (x : Ex) (e : Ev) : toB (.exc x e) = .exc x e := rfl
def truthOf (d : D) (e : Ev) : Res Out := match truD d with
  | some k => .ok (.val (.bl k)) e
  | none => .bad
def primR (p : Pr) (ds : Option (List D)) (e : Ev) : Res Out := match ds with
  | some ds => (match prim p ds with
    | some o => .ok o e
    | none => .bad)
  | none => .bad
def foOut : FO → Ev → Res Out
  | .val d, e => .ok (.val d) e
  | .own d, e => .ok (.own d) e
  | .exc x, e => .exc x e
def callR (fn : Option Fn) (os : List Opd) (e : Ev) : Res Out := match fn with
  | none => .bad
  | some fn => match argsGet e fn.modes (os ++ fn.dflt.map .dv) with
    | none => .bad
    | some ds => match apart fn.modes (os ++ fn.dflt.map .dv), fn.mf ds with
      | true, some r => (match putBack e (bors fn.modes (os ++ fn.dflt.map .dv)) r.back with
        | none => .bad
        | some e2 => foOut r.out e2)
      | _, _ => .bad
def muR (m : Mu) (i : Nat) (ds : Option (List D)) (e : Ev) : Res Out := match getOwn e i, ds with
  | some (.lst xs), some ds => (match muL m xs ds with
    | some (ys, r) => (match setOwn e i (.lst ys) with
      | some e2 => .ok (.val r) e2
      | none => .bad)
    | none => .bad)
  | _, _ => .bad
/-- .. as an int -/
def toI : Res Out → Res (Option Int)
  | .ok (.val (.int k)) e => .ok (some k) e
  | .exc x e => .exc x e
  | _ => .bad
@[simp] theorem toI_bad : toI .bad = .bad := rfl
@[simp] theorem toI_ok (k : Int) (e : Ev) : toI (.ok (.val (.int k)) e) = .ok (some k) e := rfl
@[simp] theorem toI_exc (x : Ex) (e : Ev) : toI (.exc x e) = .exc x e := rfl
def slcF (d : D) (lo hi : Option Int) : Option Out := match d with
  | .lst xs => some (.own (.lst (cut xs lo hi)))
  | .str xs => some (.val (.str (cut xs lo hi)))
  | .tup xs => if sIx xs.length 0 lo = 0 ∧ sIx xs.length xs.length hi = xs.length then none else some (.val (.tup (cut xs lo hi)))
  | _ => none
def slcR (d : Option D) (lo hi : Option Int) (e : Ev) : Res Out := match d with
  | none => .bad
  | some d => match slcF d lo hi with
    | none => .bad
    | some o => .ok o e
def methR (m : Mt) (d : Option D) (ds : Option (List D)) (e : Ev) : Res Out := match d, ds with
  | some d, some ds => (match methF m d ds with
    | some o => .ok o e
    | none => .bad)
  | _, _ => .bad
def rdOp (i : Nat) (e : Ev) : Res Opd := match e.at i with
  | .no => .bad
  | .val d => .ok (.dv d) e
  | _ => .ok (.sl i) e
def getR (o : Opd) (e : Ev) : Res Out := match o.get e 0 with
  | some d => truthOf d e
  | none => .bad
/-- one turn of a comprehension -/
def compTurn (own : List Nat) (pat : Pat) (cond : Ev → Res Bool) (elt : Ev → Res Out) (x : D) (e : Ev) : Res (Option D) :=
  match wipeE e own with
  | none => .bad
  | some e1 => match put pat x e1 with
    | none => .bad
    | some e2 => match cond e2 with
      | .ok true e3 => (match elt e3 with
        | .ok y e4 => .ok (some y.d) e4
        | _ => .bad)
      | .ok false e3 => .ok none e3
      | _ => .bad
def compR (own : List Nat) (it : ItK) (turn : D → Ev → Res (Option D)) (ds : Option (List D)) (e : Ev) : Res Out := match ds with
  | none => .bad
  | some ds => match items it ds, wipeE e own with
    | some xs, some e2 => (match compRun turn xs [] e2 with
      | .ok ys e3 => (match wipeE e3 own with
        | some e4 => .ok (.own (.lst ys)) e4
        | none => .bad)
      | _ => .bad)
    | _, _ => .bad
section
variable (Γ : List Fn) (G : List D)
mutual
def evE : E → Ev → Res Out
  | .v i, e => match e.at i with
    | .val d => .ok (.val d) e
    | .own d => .ok (.val d) (e.set i (.val d))
    | _ => .bad
  | .mv i, e => match e.at i with
    | .own d => .ok (.own d) (e.set i .no)
    | .val d => .ok (.val d) e
    | _ => .bad
  | .fz i, e => match e.at i with
    | .own d => .ok (.val d) (e.set i (.val d))
    | _ => .bad
  | .rd _, _ => .bad
  | .k d, e => .ok (.val d) e
  | .g x, e => match G[x]? with
    | some d => .ok (.val d) e
    | none => .bad
  | .pr p es, e => (evO es e).bind fun os e1 => primR p (opds e1 p.need os) e1
  | .chain c1 c2 a b c, e => (toV (evE a e)).bind fun x e1 => (toV (evE b e1)).bind fun y e2 => match prim c1 [x, y] with
    | some (.val (.bl true)) => (toV (evE c e2)).bind fun z e3 => primR c2 (some [y, z]) e3
    | some (.val (.bl false)) => .ok (.val (.bl false)) e2
    | _ => .bad
  | .and a b, e => (toB (evE a e)).bind fun x e1 => cond x (evE b e1) (.ok (.val (.bl false)) e1)
  | .or a b, e => (toB (evE a e)).bind fun x e1 => cond x (.ok (.val (.bl true)) e1) (evE b e1)
  | .not a, e => (toB (evE a e)).bind fun x e1 => .ok (.val (.bl (!x))) e1
  | .truth a, e => match a with
    | .rd i => (rdOp i e).bind getR
    | a => (toV (evE a e)).bind truthOf
  | .ite c a b, e => (toB (evE c e)).bind fun k e1 => cond k (evE a e1) (evE b e1)
  | .slc a lo hi, e => (match a with
    | .rd i => rdOp i e
    | a => (toV (evE a e)).bind fun d e1 => .ok (.dv d) e1).bind fun o e1 => (evB lo e1).bind fun l e2 => (evB hi e2).bind fun h e3 => slcR (o.get e3 0) l h e3
  | .call f es, e => (evO es e).bind fun os e1 => callR Γ[f]? os e1
  | .callx fs ix es, e => (toI (evE ix e)).bind fun k e1 => match k.bind (atI fs) with
    | some f => (evO es e1).bind fun os e2 => callR Γ[f]? os e2
    | none => .bad
  | .isi i _ ns, e => match e.at i with
    | .err x => .ok (.val (.bl (ns.contains x.cls))) e
    | _ => .bad
  | .meth m a es, e => (match a with
    | .rd i => rdOp i e
    | a => (toV (evE a e)).bind fun d e1 => .ok (.dv d) e1).bind fun o e1 => match recvTy m (o.get e1 0) with
      | true => (evO es e1).bind fun os e2 => methR m (o.get e2 0) (opds e2 0 os) e2
      | false => .bad
  | .mu m i es, e => match getOwn e i with
    | some (.lst _) => (evO es e).bind fun os e1 => muR m i (opds e1 2 os) e1
    | _ => .bad
  | .comp own pat it src cond elt, e => (evO src e).bind fun os e1 => compR own it (compTurn own pat (evC cond) (evE elt)) (stays e1 os) e1
def evO : List E → Ev → Res (List Opd)
  | [], e => .ok [] e
  | x :: xs, e => (match x with
    | .rd i => rdOp i e
    | x => (toV (evE x e)).bind fun d e1 => .ok (.dv d) e1).bind fun o e1 => (evO xs e1).bind fun os e2 => .ok (o :: os) e2
def evB : Option E → Ev → Res (Option Int)
  | none, e => .ok none e
  | some x, e => toI (evE x e)
def evC : Option E → Ev → Res Bool
  | none, e => .ok true e
  | some c, e => toB (evE c e)
end

def evP (x : E) (e : Ev) : Res Opd := match x with
  | .rd i => rdOp i e
  | x => (toV (evE Γ G x e)).bind fun d e1 => .ok (.dv d) e1
theorem evO_cons (x : E) (xs : List E) (e : Ev) : evO Γ G (x :: xs) e = (evP Γ G x e).bind fun o e1 => (evO Γ G xs e1).bind fun os e2 => .ok (o :: os) e2 := by
  cases x <;> rfl
theorem evE_slc (a : E) (lo hi : Option E) (e : Ev) : evE Γ G (.slc a lo hi) e = (evP Γ G a e).bind fun o e1 => (evB Γ G lo e1).bind fun l e2 => (evB Γ G hi e2).bind fun h e3 => slcR (o.get e3 0) l h e3 := by
  cases a <;> rfl
theorem evE_meth (m : Mt) (a : E) (es : List E) (e : Ev) : evE Γ G (.meth m a es) e = (evP Γ G a e).bind fun o e1 => match recvTy m (o.get e1 0) with
    | true => (evO Γ G es e1).bind fun os e2 => methR m (o.get e2 0) (opds e2 0 os) e2
    | false => .bad := by
  cases a <;> rfl

/-! ### statements -/
inductive SR where
  | bad | nx (e : Ev) | ret (o : Out) (e : Ev) | brk (e : Ev) | cnt (e : Ev) | exc (x : Ex) (e : Ev)
/-- behind an expression -/
def SR.of {α : Type} : Res α → (α → Ev → SR) → SR
  | .bad, _ => .bad
  | .ok a e, k => k a e
  | .exc x e, _ => .exc x e
@[simp] theorem SR.of_bad {α : Type} (k : α → Ev → SR) : SR.of .bad k = .bad := rfl
@[simp] theorem SR.of_ok {α : Type} (a : α) (e : Ev) (k : α → Ev → SR) : SR.of (.ok a e) k = k a e := rfl
@[simp] theorem SR.of_exc {α : Type} (x : Ex) (e : Ev) (k : α → Ev → SR) : SR.of (.exc x e) k = .exc x e := rfl
def SR.then : SR → (Ev → SR) → SR
  | .nx e, k => k e
  | r, _ => r
@[simp] theorem SR.then_nx (e : Ev) (k : Ev → SR) : SR.then (.nx e) k = k e := rfl
@[simp] theorem SR.then_bad (k : Ev → SR) : SR.then .bad k = .bad := rfl
@[simp] theorem SR.then_ret (o : Out) (e : Ev) (k : Ev → SR) : SR.then (.ret o e) k = .ret o e := rfl
@[simp] theorem SR.then_brk (e : Ev) (k : Ev → SR) : SR.then (.brk e) k = .brk e := rfl
@[simp] theorem SR.then_cnt (e : Ev) (k : Ev → SR) : SR.then (.cnt e) k = .cnt e := rfl
@[simp] theorem SR.then_exc (x : Ex) (e : Ev) (k : Ev → SR) : SR.then (.exc x e) k = .exc x e := rfl
def SR.ofO : Option Ev → SR
  | some e => .nx e
  | none => .bad
@[simp] theorem SR.ofO_some (e : Ev) : SR.ofO (some e) = .nx e := rfl
@[simp] theorem SR.ofO_none : SR.ofO none = .bad := rfl
def forRun (body : D → Ev → SR) : List D → Ev → SR
  | [], e => .nx e
  | x :: xs, e => match body x e with
    | .nx e' => forRun body xs e'
    | .cnt e' => forRun body xs e'
    | .brk e' => .nx e'
    | r => r
def whlRun (c : Ev → Res Bool) (body : Ev → SR) : Nat → Ev → SR
  | 0, _ => .bad
  | n + 1, e => match c e with
    | .bad => .bad
    | .exc x e1 => .exc x e1
    | .ok false e1 => .nx e1
    | .ok true e1 => match body e1 with
      | .nx e' => whlRun c body n e'
      | .cnt e' => whlRun c body n e'
      | .brk e' => .nx e'
      | r => r
def forR (it : ItK) (turn : D → Ev → SR) (ds : Option (List D)) (e : Ev) : SR := match ds with
  | none => .bad
  | some ds => match items it ds with
    | none => .bad
    | some xs => forRun turn xs e
def setIx (e : Ev) (i : Nat) (k d : D) : Option Ev := match getOwn e i, k with
  | some (.lst xs), .int n => (match ixN xs.length n with
    | some j => setOwn e i (.lst (xs.set j d))
    | none => none)
  | _, _ => none
def getIx (e : Ev) (i : Nat) (k : D) : Option D := match getOwn e i, k with
  | some (.lst xs), .int n => atI xs n
  | _, _ => none
def parPut : List Nat → List D → Ev → Option Ev
  | [], [], e => some e
  | i :: is, d :: ds, e => match put (.nm i) d e with
    | some e' => parPut is ds e'
    | none => none
  | _, _, _ => none
def valsOf : List Opd → Option (List D)
  | [] => some []
  | .dv d :: r => (valsOf r).map (d :: ·)
  | .sl _ :: _ => none
/-- no place bears the handled one -/
def Ev.clear (e : Ev) : Bool := e.all fun s => match s with
  | .err _ => false
  | _ => true
/-- behind an except suite the caught one's name is gone -/
def dropE (i : Option Nat) (e : Ev) : Option Ev := match i with
  | some i => (match e.at i with
    | .err _ => if Ev.clear (e.set i .no) then some (e.set i .no) else none
    | _ => none)
  | none => if e.clear then some e else none
def suiteEnd (i : Option Nat) : SR → SR
  | .bad => .bad
  | .nx e => match dropE i e with
    | some e => .nx e
    | none => .bad
  | .ret o e => match dropE i e with
    | some e => .ret o e
    | none => .bad
  | .brk e => match dropE i e with
    | some e => .brk e
    | none => .bad
  | .cnt e => match dropE i e with
    | some e => .cnt e
    | none => .bad
  | .exc _ _ => .bad
/-- the caught one gets its name -/
def catchE (i : Option Nat) (x : Ex) (e : Ev) : Option Ev := if e.clear then (match i with
  | some i => (match e.at i with
    | .bor _ => none
    | _ => if i < e.length then some (e.set i (.err x)) else none)
  | none => some e) else none
mutual
def evS : S → Ev → SR
  | .set p x, e => SR.of (evE Γ G x e) fun o e1 => SR.ofO (putOut p o e1)
  | .par is es, e => SR.of (evO Γ G es e) fun os e1 => match valsOf os with
    | some ds => SR.ofO (parPut is ds e1)
    | none => .bad
  | .aug i p x, e => match e.at i with
    | .val a => SR.of (toV (evE Γ G x e)) fun b e1 => (match e1.at i, prim p [a, b] with
      | .val _, some (.val d) => SR.ofO (put (.nm i) d e1)
      | _, _ => .bad)
    | _ => .bad
  | .stx i k x, e => SR.of (toV (evE Γ G x e)) fun d e1 => match getOwn e1 i with
    | none => .bad
    | some _ => SR.of (toV (evE Γ G k e1)) fun n e2 => SR.ofO (setIx e2 i n d)
  | .augx i p k x, e => match getOwn e i with
    | none => .bad
    | some _ => SR.of (toV (evE Γ G k e)) fun n e1 => match getIx e1 i n with
      | none => .bad
      | some a => SR.of (toV (evE Γ G x e1)) fun b e2 => match prim p [a, b] with
        | some (.val d) => SR.ofO (setIx e2 i n d)
        | _ => .bad
  | .ex x, e => SR.of (evE Γ G x e) fun _ e1 => .nx e1
  | .ret x, e => SR.of (evE Γ G x e) fun o e1 => .ret o e1
  | .retN, e => .ret (.val .non) e
  | .if_ c a b, e => SR.of (toB (evE Γ G c e)) fun k e1 => cond k (evSs a e1) (evSs b e1)
  | .for_ pat it src body, e => SR.of (evO Γ G src e) fun os e1 => forR it (fun x e' => SR.then (SR.ofO (put pat x e')) (evSs body)) (stays e1 os) e1
  | .whl fuel c body, e => whlRun (fun e => toB (evE Γ G c e)) (evSs body) (fuel e) e
  | .brk, e => .brk e
  | .cnt, e => .cnt e
  | .pass, e => .nx e
  | .rai c, e => .exc ⟨c, []⟩ e
  | .tryc body hd suites, e => match evSs body e with
    | .exc x e' => evHs suites hd x e'
    | r => r
  | .wipe is, e => SR.ofO (wipeE e is)
def evSs : List S → Ev → SR
  | [], e => .nx e
  | s :: r, e => (evS s e).then (evSs r)
def evHs : List (List S) → List (List Nat × Option Nat) → Ex → Ev → SR
  | s :: ss, h :: hs, x, e => if h.1.contains x.cls then (match catchE h.2 x e with
      | some e1 => suiteEnd h.2 (evSs s e1)
      | none => .bad) else evHs ss hs x e
  | _, _, _, _ => .bad
end
end

/-! ### defs -/
def enter (n : Nat) : List Mode → List D → Ev
  | [], _ => List.replicate n .no
  | .val :: ms, d :: ds => .val d :: enter (n - 1) ms ds
  | .ro :: ms, d :: ds => .ro d :: enter (n - 1) ms ds
  | .st :: ms, d :: ds => .st d :: enter (n - 1) ms ds
  | .bor :: ms, d :: ds => .bor d :: enter (n - 1) ms ds
  | .err :: ms, d :: ds => (match d with
    | .obj c as => .err ⟨c, as⟩
    | _ => .no) :: enter (n - 1) ms ds
  | _ :: _, [] => List.replicate n .no
def backs (e : Ev) : Nat → List Mode → Option (List D)
  | _, [] => some []
  | i, .bor :: ms => match e.at i, backs e (i + 1) ms with
    | .bor d, some ds => some (d :: ds)
    | _, _ => none
  | i, _ :: ms => backs e (i + 1) ms
def leave (ms : List Mode) : SR → Option FRes
  | .nx e => (backs e 0 ms).map fun b => ⟨.val .non, b⟩
  | .ret (.val d) e => (backs e 0 ms).map fun b => ⟨.val d, b⟩
  | .ret (.own d) e => (backs e 0 ms).map fun b => ⟨.own d, b⟩
  | .exc x e => (backs e 0 ms).map fun b => ⟨.exc x, b⟩
  | _ => none
/-- a def's body at its arguments: n places, the parameters first -/
def runDef (Γ : List Fn) (G : List D) (n : Nat) (ms : List Mode) (body : List S) (ds : List D) : Option FRes :=
  if ds.length = ms.length then leave ms (evSs Γ G body (enter n ms ds)) else none
end Mini

set_option Elab.async false
set_option linter.all false
set_option maxRecDepth 100000
/-! Mini: how the plain data lie in the abstract heap. -/
namespace Mini
open PySem PySem.Spec PyProof.Rows L2

theorem SZ_eq : SZ = sizeLine := by rw [sizeLine_eq]; rfl
abbrev Fz := Addr → Prop
def StrOk (s : List Nat) : Prop := s.length ≤ SZ ∧ ∀ c ∈ s, c < 0x110000

mutual
/-- v stands for d, for good -/
inductive Rep (K : PySem.W.Frag) (H : Hp) (F : Fz) : V → D → Prop
  | non : Rep K H F .non .non
  | bl (b : Bool) : Rep K H F (.bl b) (.bl b)
  | int (i : Int) : Rep K H F (.int i) (.int i)
  | str (s : List Nat) : StrOk s → Rep K H F (.str (sOf s)) (.str s)
  | lst {a : Addr} {xs : List V} {ds : List D} : F a → H a = some (.lst xs) → RepL K H F xs ds → Rep K H F (.ref a) (.lst ds)
  | tup {a : Addr} {xs : List V} {ds : List D} : F a → H a = some (.tup xs) → RepL K H F xs ds → Rep K H F (.ref a) (.tup ds)
  | tupK {a : Addr} {xs : List V} {ds : List D} : (∀ H', SqT K H' a xs) → RepL K H F xs ds → Rep K H F (.ref a) (.tup ds)
inductive RepL (K : PySem.W.Frag) (H : Hp) (F : Fz) : List V → List D → Prop
  | nil : RepL K H F [] []
  | cons {v : V} {vs : List V} {d : D} {ds : List D} : Rep K H F v d → RepL K H F vs ds → RepL K H F (v :: vs) (d :: ds)
end

/-- what stands frozen stays -/
structure Grow (H : Hp) (F : Fz) (H' : Hp) (F' : Fz) : Prop where
  fz : ∀ a, F a → F' a
  kp : ∀ a o, F a → H a = some o → H' a = some o
theorem Grow.refl (H : Hp) (F : Fz) : Grow H F H F := ⟨fun _ h => h, fun _ _ _ h => h⟩
theorem Grow.trans {H H1 H2 : Hp} {F F1 F2 : Fz} (a : Grow H F H1 F1) (b : Grow H1 F1 H2 F2) : Grow H F H2 F2 :=
  ⟨fun x h => b.fz x (a.fz x h), fun x o h e => b.kp x o (a.fz x h) (a.kp x o h e)⟩

section
variable {K : PySem.W.Frag} {H H' : Hp} {F F' : Fz}
mutual
theorem Rep.grow (g : Grow H F H' F') : ∀ {v : V} {d : D}, Rep K H F v d → Rep K H' F' v d
  | _, _, .non => .non
  | _, _, .bl b => .bl b
  | _, _, .int i => .int i
  | _, _, .str s h => .str s h
  | _, _, .lst f e r => .lst (g.fz _ f) (g.kp _ _ f e) (RepL.grow g r)
  | _, _, .tup f e r => .tup (g.fz _ f) (g.kp _ _ f e) (RepL.grow g r)
  | _, _, .tupK h r => .tupK h (RepL.grow g r)
theorem RepL.grow (g : Grow H F H' F') : ∀ {vs : List V} {ds : List D}, RepL K H F vs ds → RepL K H' F' vs ds
  | _, _, .nil => .nil
  | _, _, .cons r t => .cons (Rep.grow g r) (RepL.grow g t)
end
theorem RepL.length : ∀ {vs : List V} {ds : List D}, RepL K H F vs ds → vs.length = ds.length
  | _, _, .nil => rfl
  | _, _, .cons _ t => by rw [List.length_cons, List.length_cons, RepL.length t]
theorem RepL.get : ∀ {vs : List V} {ds : List D} {i : Nat} {d : D}, RepL K H F vs ds → ds[i]? = some d → ∃ v, vs[i]? = some v ∧ Rep K H F v d
  | _, _, _, _, .nil, e => by simp at e
  | _, _, 0, d, .cons r _, e => by simp at e; subst e; exact ⟨_, rfl, r⟩
  | _, _, i + 1, d, .cons _ t, e => by
    obtain ⟨v, h, r⟩ := RepL.get (i := i) (d := d) t (by simpa using e)
    exact ⟨v, by simpa using h, r⟩
theorem RepL.get' : ∀ {vs : List V} {ds : List D} {i : Nat} {v : V}, RepL K H F vs ds → vs[i]? = some v → ∃ d, ds[i]? = some d ∧ Rep K H F v d
  | _, _, _, _, .nil, e => by simp at e
  | _, _, 0, d, .cons r _, e => by simp at e; subst e; exact ⟨_, rfl, r⟩
  | _, _, i + 1, d, .cons _ t, e => by
    obtain ⟨v, h, r⟩ := RepL.get' (i := i) (v := d) t (by simpa using e)
    exact ⟨v, by simpa using h, r⟩
theorem RepL.append : ∀ {xs ys : List V} {ds es : List D}, RepL K H F xs ds → RepL K H F ys es → RepL K H F (xs ++ ys) (ds ++ es)
  | _, _, _, _, .nil, s => s
  | _, _, _, _, .cons r t, s => .cons r (RepL.append t s)
theorem RepL.take : ∀ {xs : List V} {ds : List D} (n : Nat), RepL K H F xs ds → RepL K H F (xs.take n) (ds.take n)
  | _, _, 0, _ => by simp; exact .nil
  | _, _, _ + 1, .nil => .nil
  | _, _, n + 1, .cons r t => .cons r (RepL.take n t)
theorem RepL.drop : ∀ {xs : List V} {ds : List D} (n : Nat), RepL K H F xs ds → RepL K H F (xs.drop n) (ds.drop n)
  | _, _, 0, r => r
  | _, _, _ + 1, .nil => .nil
  | _, _, n + 1, .cons _ t => by simpa using RepL.drop n t
theorem RepL.set {v : V} {d : D} (r : Rep K H F v d) : ∀ {xs : List V} {ds : List D} (i : Nat), RepL K H F xs ds → RepL K H F (xs.set i v) (ds.set i d)
  | _, _, _, .nil => .nil
  | _, _, 0, .cons _ t => .cons r t
  | _, _, i + 1, .cons q t => .cons q (RepL.set r i t)
theorem RepL.reverse {xs : List V} {ds : List D} (r : RepL K H F xs ds) : RepL K H F xs.reverse ds.reverse := by
  have go : ∀ {xs : List V} {ds : List D}, RepL K H F xs ds → ∀ {ys : List V} {es : List D}, RepL K H F ys es → RepL K H F (xs.reverseAux ys) (ds.reverseAux es) := by
    intro xs
    induction xs with
    | nil => intro ds r ys es s; cases r; exact s
    | cons x xs ih => intro ds r ys es s; cases r with | cons r t => exact ih t (.cons r s)
  exact go r .nil
theorem RepL.dropLast {xs : List V} {ds : List D} (r : RepL K H F xs ds) : RepL K H F xs.dropLast ds.dropLast := by
  rw [List.dropLast_eq_take, List.dropLast_eq_take, r.length]; exact r.take _
theorem RepL.rep {xs : List V} {ds : List D} (r : RepL K H F xs ds) : ∀ n : Nat, RepL K H F (List.replicate n xs).flatten (List.replicate n ds).flatten
  | 0 => .nil
  | n + 1 => by rw [List.replicate_succ, List.replicate_succ, List.flatten_cons, List.flatten_cons]; exact r.append (RepL.rep r n)
end

/-! ### values that are read -/
/-- the list d stands at a -/
def TL (K : PySem.W.Frag) (H : Hp) (F : Fz) (a : Addr) (d : D) : Prop := ∃ xs ds, d = .lst ds ∧ H a = some (.lst xs) ∧ RepL K H F xs ds
/-- .. the script, or a list of the module -/
def StL (K : PySem.W.Frag) (H : Hp) (F : Fz) (a : Addr) (d : D) : Prop := ∃ xs ds, d = .lst ds ∧ ((∃ o, H a = some (.frz o (.lst xs))) ∨ ∀ H', SqL K H' a xs) ∧ RepL K H F xs ds
/-- .. to be read -/
def RL (K : PySem.W.Frag) (H : Hp) (F : Fz) (a : Addr) (d : D) : Prop := ∃ xs ds, d = .lst ds ∧ SqL K H a xs ∧ RepL K H F xs ds
/-- by what is needed -/
def RV (K : PySem.W.Frag) (H : Hp) (F : Fz) (n : Nat) (v : V) (d : D) : Prop :=
  Rep K H F v d ∨ (n ≤ 1 ∧ ∃ a, v = .ref a ∧ TL K H F a d) ∨ (n = 0 ∧ ∃ a, v = .ref a ∧ RL K H F a d)
inductive RVs (K : PySem.W.Frag) (H : Hp) (F : Fz) (n : Nat) : List V → List D → Prop
  | nil : RVs K H F n [] []
  | cons {v : V} {vs : List V} {d : D} {ds : List D} : RV K H F n v d → RVs K H F n vs ds → RVs K H F n (v :: vs) (d :: ds)

section
variable {K : PySem.W.Frag} {H H' : Hp} {F F' : Fz} {n : Nat} {v : V} {d : D}
theorem StL.rl {a : Addr} (h : StL K H F a d) : RL K H F a d := by
  obtain ⟨xs, ds, e, h1, h2⟩ := h
  refine ⟨xs, ds, e, ?_, h2⟩
  rcases h1 with ⟨o, h1⟩ | h1
  · exact .inl (.inr ⟨o, h1⟩)
  · exact h1 H
theorem TL.rl {a : Addr} (h : TL K H F a d) : RL K H F a d := let ⟨xs, ds, e, h1, h2⟩ := h; ⟨xs, ds, e, .of h1, h2⟩
theorem RV.int {i : Int} (h : RV K H F n v (.int i)) : v = .int i := by
  rcases h with h | ⟨_, _, _, _, _, e, _⟩ | ⟨_, _, _, _, _, e, _⟩
  · cases h; rfl
  · cases e
  · cases e
theorem RV.bl {i : Bool} (h : RV K H F n v (.bl i)) : v = .bl i := by
  rcases h with h | ⟨_, _, _, _, _, e, _⟩ | ⟨_, _, _, _, _, e, _⟩
  · cases h; rfl
  · cases e
  · cases e
theorem RV.non (h : RV K H F n v .non) : v = .non := by
  rcases h with h | ⟨_, _, _, _, _, e, _⟩ | ⟨_, _, _, _, _, e, _⟩
  · cases h; rfl
  · cases e
  · cases e
theorem RV.str {s : List Nat} (h : RV K H F n v (.str s)) : v = .str (sOf s) ∧ StrOk s := by
  rcases h with h | ⟨_, _, _, _, _, e, _⟩ | ⟨_, _, _, _, _, e, _⟩
  · cases h; exact ⟨rfl, by assumption⟩
  · cases e
  · cases e
theorem RV.lst {ds : List D} (h : RV K H F n v (.lst ds)) : ∃ a xs, v = .ref a ∧ SqL K H a xs ∧ RepL K H F xs ds := by
  rcases h with h | ⟨_, a, e, h⟩ | ⟨_, a, e, h⟩
  · cases h with | lst f e r => exact ⟨_, _, rfl, .of e, r⟩
  · obtain ⟨xs, ds', e1, h1, h2⟩ := h.rl
    cases e1; exact ⟨a, xs, e, h1, h2⟩
  · obtain ⟨xs, ds', e1, h1, h2⟩ := h
    cases e1; exact ⟨a, xs, e, h1, h2⟩
/-- .. tracked -/
theorem RV.lst1 {ds : List D} (h : RV K H F 1 v (.lst ds)) : ∃ a xs, v = .ref a ∧ H a = some (.lst xs) ∧ RepL K H F xs ds := by
  rcases h with h | ⟨_, a, e, h⟩ | ⟨q, _⟩
  · cases h with | lst f e r => exact ⟨_, _, rfl, e, r⟩
  · obtain ⟨xs, ds', e1, h1, h2⟩ := h
    cases e1; exact ⟨a, xs, e, h1, h2⟩
  · cases q
theorem Rep.sqt {ds : List D} (h : Rep K H F v (.tup ds)) : ∃ a xs, v = .ref a ∧ SqT K H a xs ∧ RepL K H F xs ds := by
  cases h with
  | tup f e r => exact ⟨_, _, rfl, .of e, r⟩
  | tupK h r => exact ⟨_, _, rfl, h _, r⟩
theorem RV.tup {ds : List D} (h : RV K H F n v (.tup ds)) : ∃ a xs, v = .ref a ∧ SqT K H a xs ∧ RepL K H F xs ds := by
  rcases h with h | ⟨_, _, _, _, _, e, _⟩ | ⟨_, _, _, _, _, e, _⟩
  · exact h.sqt
  · cases e
  · cases e
theorem RV.rep (h : RV K H F 2 v d) : Rep K H F v d := by
  rcases h with h | ⟨q, _⟩ | ⟨q, _⟩
  · exact h
  · omega
  · cases q
theorem RVs.reps : ∀ {vs : List V} {ds : List D}, RVs K H F 2 vs ds → RepL K H F vs ds
  | _, _, .nil => .nil
  | _, _, .cons r t => .cons r.rep (RVs.reps t)
end

/-! ### the state of a def's body -/
/-- what a body stands in: the heap and the frozen at its entry, the lent places (slot, address) -/
structure Bx where
  K : PySem.W.Frag
  H0 : Hp
  F0 : Fz
  B : List (Nat × Addr)
  /-- lists that are being made, as they stand -/
  T : List (Addr × HO) := []
  /-- the exception that is handled -/
  er : Option (Addr × Ex) := none
/-- a list that the caller lent to be read -/
def RoL (C : Bx) (H : Hp) (F : Fz) (a : Addr) (d : D) : Prop := ∃ xs ds, d = .lst ds ∧ C.H0 a = some (.lst xs) ∧ a ∉ C.B.map (·.2) ∧ RepL C.K H F xs ds
/-- the script -/
def StO (C : Bx) (H : Hp) (F : Fz) (a : Addr) (d : D) : Prop := ∃ xs ds, d = .lst ds ∧ ((∃ o, C.H0 a = some (.frz o (.lst xs)) ∧ a ∉ C.B.map (·.2)) ∨ ∀ H', SqL C.K H' a xs) ∧ RepL C.K H F xs ds
def SlotOk (C : Bx) (H : Hp) (F : Fz) (i : Nat) (o : Option V) : Sl → Prop
  | .no => True
  | .val d => ∃ v, o = some v ∧ Rep C.K H F v d
  | .own d => ∃ a, o = some (.ref a) ∧ TL C.K H F a d ∧ ¬ F a ∧ C.H0 a = none
  | .bor d => ∃ a, o = some (.ref a) ∧ TL C.K H F a d ∧ ¬ F a ∧ (i, a) ∈ C.B
  | .ro d => ∃ a, o = some (.ref a) ∧ RoL C H F a d
  | .st d => ∃ a, o = some (.ref a) ∧ StO C H F a d
  | .err x => ∃ a, o = some (.ref a) ∧ C.er = some (a, x)
structure Rel (C : Bx) (e : Ev) (σ : L2.St) (H : Hp) (F : Fz) : Prop where
  len : e.length = σ.length
  fz : ∀ a, C.F0 a → F a
  fz' : ∀ a, F a → C.F0 a ∨ C.H0 a = none
  tr : ∀ a, F a → H a ≠ none
  keep : ∀ a o, C.H0 a = some o → a ∉ C.B.map (·.2) → H a = some o
  lent : ∀ p ∈ C.B, H p.2 ≠ none ∧ (∃ d, e.at p.1 = .bor d) 
  slot : ∀ i, SlotOk C H F i (σ.getD i none) (e.at i)
  apart : ∀ i j a, i ≠ j → (e.at i).mut = true → (e.at j).listy = true → σ.getD i none = some (.ref a) → σ.getD j none = some (.ref a) → False
  pin : ∀ p ∈ C.T, H p.1 = some p.2 ∧ ¬ F p.1 ∧ ∀ j, (e.at j).listy = true → σ.getD j none ≠ some (.ref p.1)

section
variable {C : Bx} {e : Ev} {σ : L2.St} {H H' : Hp} {F F' : Fz}
theorem Ev.at_lt {e : Ev} {i : Nat} (h : e.at i ≠ .no) : i < e.length := by
  unfold Ev.at at h
  rcases Nat.lt_or_ge i e.length with q | q
  · exact q
  · exact absurd (by simp [List.getD, List.getElem?_eq_none q]) h
theorem Ev.at_set {e : Ev} {i j : Nat} {s : Sl} : Ev.at (e.set i s) j = if i = j ∧ i < e.length then s else e.at j := by
  unfold Ev.at
  simp only [List.getD_eq_getElem?_getD, List.getElem?_set]
  by_cases h : i = j
  · subst h
    by_cases q : i < e.length
    · simp [q]
    · simp [q]
  · simp [h]
theorem st_set {σ : L2.St} {i j : Nat} {s : Option V} : (σ.set i s).getD j none = if i = j ∧ i < σ.length then s else σ.getD j none := by
  simp only [List.getD_eq_getElem?_getD, List.getElem?_set]
  by_cases h : i = j
  · subst h
    by_cases q : i < σ.length
    · simp [q]
    · simp [q]
  · simp [h]
theorem st_some {σ : L2.St} {i : Nat} {v : V} (h : σ.getD i none = some v) : σ[i]? = some (some v) := by
  rw [List.getD_eq_getElem?_getD] at h
  cases e : σ[i]? with
  | none => rw [e] at h; cases h
  | some o => rw [e] at h; simp at h; rw [h]
theorem some_st {σ : L2.St} {i : Nat} {v : V} (h : σ[i]? = some (some v)) : σ.getD i none = some v := by
  rw [List.getD_eq_getElem?_getD, h]; rfl

/-- the heap changes at own and fresh places alone: a is the address that is written, or none -/
structure Ext (H : Hp) (F : Fz) (H' : Hp) (F' : Fz) (M : Addr → Prop) : Prop where
  kp : ∀ a o, H a = some o → ¬ M a → H' a = some o
  fz : ∀ a, F a → F' a
  fz' : ∀ a, F' a → F a ∨ H a = none
  tr : ∀ a, F' a → H' a ≠ none
  mt : ∀ a, M a → ¬ F a
theorem Ext.grow {M : Addr → Prop} (x : Ext H F H' F' M) : Grow H F H' F' :=
  ⟨x.fz, fun a o f e => x.kp a o e fun m => x.mt a m f⟩
/-- new things alone -/
theorem Rel.ext (R : Rel C e σ H F) (x : Ext H F H' F' (fun _ => False)) : Rel C e σ H' F' where
  len := R.len
  fz := fun a h => x.fz a (R.fz a h)
  fz' := fun a h => by
    rcases x.fz' a h with h | h
    · exact R.fz' a h
    · by_cases hb : a ∈ C.B.map (·.2)
      · obtain ⟨p, hp, rfl⟩ := List.mem_map.mp hb
        exact absurd h (R.lent p hp).1
      · cases q : C.H0 a with
        | none => exact .inr rfl
        | some o => rw [R.keep a o q hb] at h; cases h
  tr := x.tr
  keep := fun a o h hb => x.kp a o (R.keep a o h hb) id
  lent := fun p hp => by
    refine ⟨fun z => ?_, (R.lent p hp).2⟩
    cases q : H p.2 with
    | none => exact (R.lent p hp).1 q
    | some o => rw [x.kp _ o q id] at z; cases z
  slot := fun i => by
    have g := x.grow
    have s := R.slot i
    have nf : ∀ a d, TL C.K H F a d → ¬ F a → TL C.K H' F' a d ∧ ¬ F' a := fun a d ⟨xs, ds, e1, h1, h2⟩ hn =>
      ⟨⟨xs, ds, e1, x.kp _ _ h1 id, h2.grow g⟩, fun z => by
        rcases x.fz' a z with z | z
        · exact hn z
        · rw [h1] at z; cases z⟩
    cases q : e.at i with
    | no => trivial
    | val d => rw [q] at s; obtain ⟨v, e1, r⟩ := s; exact ⟨v, e1, r.grow g⟩
    | own d =>
      rw [q] at s; obtain ⟨a, e1, t, hf, h0⟩ := s
      obtain ⟨t', n'⟩ := nf a d t hf
      exact ⟨a, e1, t', n', h0⟩
    | bor d =>
      rw [q] at s; obtain ⟨a, e1, t, hf, h0⟩ := s
      obtain ⟨t', n'⟩ := nf a d t hf
      exact ⟨a, e1, t', n', h0⟩
    | ro d =>
      rw [q] at s; obtain ⟨a, e1, xs, ds, e2, h1, h3, h2⟩ := s
      exact ⟨a, e1, xs, ds, e2, h1, h3, h2.grow g⟩
    | st d =>
      rw [q] at s; obtain ⟨a, e1, xs, ds, e2, h1, h2⟩ := s
      exact ⟨a, e1, xs, ds, e2, h1, h2.grow g⟩
    | err x => rw [q] at s; exact s
  apart := R.apart
  pin := fun p hp => by
    obtain ⟨h1, h2, h3⟩ := R.pin p hp
    exact ⟨x.kp _ _ h1 id, fun z => (x.fz' _ z).elim h2 (fun z => by rw [h1] at z; cases z), h3⟩
theorem RoL.tl {a : Addr} {d : D} (R : Rel C e σ H F) (h : RoL C H F a d) : TL C.K H F a d :=
  let ⟨xs, ds, e1, h1, h2, h3⟩ := h; ⟨xs, ds, e1, R.keep a _ h1 h2, h3⟩
theorem StO.stl {a : Addr} {d : D} (R : Rel C e σ H F) (h : StO C H F a d) : StL C.K H F a d := by
  obtain ⟨xs, ds, e1, h1, h3⟩ := h
  refine ⟨xs, ds, e1, ?_, h3⟩
  rcases h1 with ⟨o, h1, h2⟩ | h1
  · exact .inl ⟨o, R.keep a _ h1 h2⟩
  · exact .inr h1
end
end Mini

set_option Elab.async false
set_option linter.all false
set_option maxRecDepth 100000
/-! Mini: readings from the evaluator. -/
namespace Mini
open PySem PySem.Spec PyProof.Rows L2

abbrev Cl := Nat → Option Value
def ExOk (cl : Cl) (x : Ex) (cls : Value) (d : Option Addr) (H : Hp) (F : Fz) : Prop := cl x.cls = some cls ∧ d = none ∧ x.args = []
def OutOk (C : Bx) (e : Ev) (σ : L2.St) (H : Hp) (F : Fz) (v : V) : Out → Prop
  | .val d => Rep C.K H F v d
  | .own d => ∃ a, v = .ref a ∧ TL C.K H F a d ∧ ¬ F a ∧ C.H0 a = none ∧ (∀ j, (e.at j).listy = true → σ.getD j none ≠ some (.ref a)) ∧ ∀ p ∈ C.T, p.1 ≠ a
def OpOk (C : Bx) (σ : L2.St) (H : Hp) (F : Fz) (v : V) : Opd → Prop
  | .dv d => Rep C.K H F v d
  | .sl i => σ.getD i none = some v
inductive OpsOk (C : Bx) (σ : L2.St) (H : Hp) (F : Fz) : List V → List Opd → Prop
  | nil : OpsOk C σ H F [] []
  | cons {v : V} {vs : List V} {o : Opd} {os : List Opd} : OpOk C σ H F v o → OpsOk C σ H F vs os → OpsOk C σ H F (v :: vs) (o :: os)

def Post {α : Type} (C : Bx) (cl : Cl) (W : WX) (σ : L2.St) (H : Hp) (F : Fz) (r : Res α) (k : α → Ev → Hp → Fz → Prop) : Prop :=
  match r with
  | .bad => False
  | .ok a e => ∀ H' F', Grow H F H' F' → Rel C e σ H' F' → k a e H' F'
  | .exc x e => ∀ H' F', Grow H F H' F' → Rel C e σ H' F' → ∀ cls d, ExOk cl x cls d H' F' → W cls d σ H'

section
variable {C : Bx} {cl : Cl} {W : WX} {σ : L2.St} {H H' : Hp} {F F' : Fz} {α β : Type}
theorem Post.mono {r : Res α} {k k' : α → Ev → Hp → Fz → Prop} (p : Post C cl W σ H F r k) (h : ∀ a e H' F', Grow H F H' F' → Rel C e σ H' F' → k a e H' F' → k' a e H' F') : Post C cl W σ H F r k' := by
  cases r with
  | bad => exact p
  | ok a e => exact fun H' F' g R => h a e H' F' g R (p H' F' g R)
  | exc x e => exact p
theorem Post.up {r : Res α} {k : α → Ev → Hp → Fz → Prop} (p : Post C cl W σ H F r k) (g : Grow H F H' F') : Post C cl W σ H' F' r k := by
  cases r with
  | bad => exact p
  | ok a e => exact fun H2 F2 g2 R => p H2 F2 (g.trans g2) R
  | exc x e => exact fun H2 F2 g2 R => p H2 F2 (g.trans g2) R
theorem Post.bind {r : Res α} {f : α → Ev → Res β} {k : β → Ev → Hp → Fz → Prop} (p : Post C cl W σ H F (r.bind f) k) : Post C cl W σ H F r (fun a e H' F' => Post C cl W σ H' F' (f a e) k) := by
  cases r with
  | bad => exact p
  | ok a e => exact fun H' F' g R => Post.up p g
  | exc x e => exact p
theorem Post.toB {r : Res Out} {k : Bool → Ev → Hp → Fz → Prop} (p : Post C cl W σ H F (toB r) k) : Post C cl W σ H F r (fun o e H' F' => ∃ b, o = .val (.bl b) ∧ k b e H' F') := by
  cases r with
  | bad => exact p
  | exc x e => exact p
  | ok o e =>
    cases o with
    | own d => exact False.elim p
    | val d => cases d <;> first | exact False.elim p | exact fun H' F' g R => ⟨_, rfl, p H' F' g R⟩

/-- an own list is frozen -/
theorem Rel.freeze {e : Ev} {a : Addr} {d : D} (R : Rel C e σ H F) (t : TL C.K H F a d) (hf : ¬ F a) (h0 : C.H0 a = none) (hs : ∀ j, (e.at j).listy = true → σ.getD j none ≠ some (.ref a)) (hp : ∀ p ∈ C.T, p.1 ≠ a) :
    Grow H F H (fun b => F b ∨ b = a) ∧ Rel C e σ H (fun b => F b ∨ b = a) ∧ Rep C.K H (fun b => F b ∨ b = a) (.ref a) d := by
  have g : Grow H F H (fun b => F b ∨ b = a) := ⟨fun _ h => .inl h, fun _ _ _ h => h⟩
  obtain ⟨xs, ds, rfl, h1, h2⟩ := t
  have nf : ∀ i b, (e.at i).listy = true → σ.getD i none = some (.ref b) → ¬ F b → ¬ (F b ∨ b = a) := fun i b hl hb hn z => by
    rcases z with z | z
    · exact hn z
    · subst z; exact hs i hl hb
  refine ⟨g, ⟨R.len, fun b h => .inl (R.fz b h), fun b h => ?_, fun b h => ?_, R.keep, R.lent, fun i => ?_, R.apart, fun p q => ⟨(R.pin p q).1, fun z => z.elim (R.pin p q).2.1 (hp p q), (R.pin p q).2.2⟩⟩, .lst (.inr rfl) h1 (h2.grow g)⟩
  · rcases h with h | h
    · exact R.fz' b h
    · subst h; exact .inr h0
  · rcases h with h | h
    · exact R.tr b h
    · subst h; rw [h1]; simp
  · have s := R.slot i
    have l := nf i
    cases q : e.at i with
    | no => trivial
    | val d => rw [q] at s; obtain ⟨v, e1, r⟩ := s; exact ⟨v, e1, r.grow g⟩
    | own d =>
      rw [q] at s l; obtain ⟨b, e1, ⟨ys, es, e2, k1, k2⟩, k3, k4⟩ := s
      exact ⟨b, e1, ⟨ys, es, e2, k1, k2.grow g⟩, l b rfl e1 k3, k4⟩
    | bor d =>
      rw [q] at s l; obtain ⟨b, e1, ⟨ys, es, e2, k1, k2⟩, k3, k4⟩ := s
      exact ⟨b, e1, ⟨ys, es, e2, k1, k2.grow g⟩, l b rfl e1 k3, k4⟩
    | ro d =>
      rw [q] at s; obtain ⟨b, e1, ys, es, e2, k1, k3, k2⟩ := s
      exact ⟨b, e1, ys, es, e2, k1, k3, k2.grow g⟩
    | st d =>
      rw [q] at s; obtain ⟨b, e1, ys, es, e2, k1, k2⟩ := s
      exact ⟨b, e1, ys, es, e2, k1, k2.grow g⟩
    | err x => rw [q] at s; exact s
theorem OutOk.frozen {e : Ev} {v : V} {o : Out} (R : Rel C e σ H F) (h : OutOk C e σ H F v o) : ∃ F', Grow H F H F' ∧ Rel C e σ H F' ∧ Rep C.K H F' v o.d := by
  cases o with
  | val d => exact ⟨F, .refl _ _, R, h⟩
  | own d =>
    obtain ⟨a, rfl, t, hf, h0, hs, hp⟩ := h
    obtain ⟨g, R', r⟩ := R.freeze t hf h0 hs hp
    exact ⟨_, g, R', r⟩
theorem Post.toV {r : Res Out} {k : D → Ev → Hp → Fz → Prop} (p : Post C cl W σ H F (toV r) k) :
    Post C cl W σ H F r (fun o e H' F' => ∀ v, OutOk C e σ H' F' v o → ∃ F2, Grow H' F' H' F2 ∧ Rel C e σ H' F2 ∧ Rep C.K H' F2 v o.d ∧ k o.d e H' F2) := by
  cases r with
  | bad => exact p
  | exc x e => exact p
  | ok o e =>
    intro H' F' g R v h
    obtain ⟨F2, g2, R2, r2⟩ := h.frozen R
    exact ⟨F2, g2, R2, r2, p H' F2 (g.trans g2) R2⟩
end

/-! ### readings -/
section
variable (C : Bx) (cl : Cl) (W : WX)
def tE (r : Ev → Res Out) : TE := fun σ H Q => ∃ e F, Rel C e σ H F ∧ Post C cl W σ H F (r e) (fun o e' H' F' => ∀ v, OutOk C e' σ H' F' v o → Q v H')
def tD (r : Ev → Res D) : TE := fun σ H Q => ∃ e F, Rel C e σ H F ∧ Post C cl W σ H F (r e) (fun d e' H' F' => ∀ v, Rep C.K H' F' v d → Q v H')
def tP (r : Ev → Res Opd) : TE := fun σ H Q => ∃ e F, Rel C e σ H F ∧ Post C cl W σ H F (r e) (fun o e' H' F' => ∀ v, OpOk C σ H' F' v o → Q v H')
def tOs (r : Ev → Res (List Opd)) : TA := fun σ H Q => ∃ e F, Rel C e σ H F ∧ Post C cl W σ H F (r e) (fun os e' H' F' => ∀ vs, OpsOk C σ H' F' vs os → Q vs H')
def tK (r : Ev → Res Bool) : TT := fun σ H Q => ∃ e F, Rel C e σ H F ∧ Post C cl W σ H F (r e) (fun b e' H' F' => Q b H')
end
section
variable {X : Cx} {x : Expr}
theorem _root_.L2.PE.imp {t t' : TE} (h : PE X x t) (i : ∀ σ H Q, t' σ H Q → t σ H Q) : PE X x t' := ⟨fun pins s σ H Q I hq => h.run pins s σ H Q I (i σ H Q hq)⟩
theorem _root_.L2.PT.imp {t t' : TT} (h : PT X x t) (i : ∀ σ H Q, t' σ H Q → t σ H Q) : PT X x t' := ⟨fun pins s σ H Q I hq => h.run pins s σ H Q I (i σ H Q hq)⟩
theorem _root_.L2.PA.imp {xs : List Expr} {t t' : TA} (h : PA X xs t) (i : ∀ σ H Q, t' σ H Q → t σ H Q) : PA X xs t' := ⟨fun pos pins s σ H Q I hq => h.run pos pins s σ H Q I (i σ H Q hq)⟩
/-- a better end -/
theorem _root_.L2.PE.imp' {t t' : TE} (h : PE X x t) (i : ∀ pins s σ H Q, Inv X pins σ H s → t' σ H Q → t σ H Q) : PE X x t' := ⟨fun pins s σ H Q I hq => h.run pins s σ H Q I (i pins s σ H Q I hq)⟩
theorem OpsOk.grow {C : Bx} {σ : L2.St} {H H' : Hp} {F F' : Fz} (g : Grow H F H' F') : ∀ {vs os}, OpsOk C σ H F vs os → OpsOk C σ H' F' vs os
  | _, _, .nil => .nil
  | _, _, .cons (o := .dv d) r t => .cons (show OpOk C σ H' F' _ (.dv d) from Rep.grow g r) (OpsOk.grow g t)
  | _, _, .cons (o := .sl i) r t => .cons (show OpOk C σ H' F' _ (.sl i) from r) (OpsOk.grow g t)
theorem OpOk.grow {C : Bx} {σ : L2.St} {H H' : Hp} {F F' : Fz} (g : Grow H F H' F') {v : V} {o : Opd} (h : OpOk C σ H F v o) : OpOk C σ H' F' v o := by
  cases o with
  | dv d => exact Rep.grow g h
  | sl i => exact h
/-- what an operand is, read -/
theorem opd_rv {C : Bx} {e : Ev} {σ : L2.St} {H : Hp} {F : Fz} {v : V} {o : Opd} {n : Nat} {d : D} (R : Rel C e σ H F) (h : OpOk C σ H F v o) (g : o.get e n = some d) : RV C.K H F n v d := by
  cases o with
  | dv d' => cases g; exact .inl h
  | sl i =>
    have s := R.slot i
    have h' : σ.getD i none = some v := h
    rw [h'] at s
    unfold Opd.get at g
    cases q : e.at i with
    | no => simp [q] at g
    | val d => simp [q] at g
    | err d => simp [q] at g
    | own d' =>
      simp only [q] at g s
      split at g
      · cases g
        obtain ⟨a, e1, t, _⟩ := s
        cases e1
        exact .inr (.inl ⟨by assumption, a, rfl, t⟩)
      · cases g
    | bor d' =>
      simp only [q] at g s
      split at g
      · cases g
        obtain ⟨a, e1, t, _⟩ := s
        cases e1
        exact .inr (.inl ⟨by assumption, a, rfl, t⟩)
      · cases g
    | ro d' =>
      simp only [q] at g s
      split at g
      · cases g
        obtain ⟨a, e1, t⟩ := s
        cases e1
        exact .inr (.inl ⟨by assumption, a, rfl, t.tl R⟩)
      · cases g
    | st d' =>
      simp only [q] at g s
      split at g
      · cases g
        obtain ⟨a, e1, t⟩ := s
        cases e1
        exact .inr (.inr ⟨by assumption, a, rfl, (t.stl R).rl⟩)
      · cases g
theorem opds_rv {C : Bx} {e : Ev} {σ : L2.St} {H : Hp} {F : Fz} {n : Nat} (R : Rel C e σ H F) : ∀ {vs : List V} {os : List Opd} {ds : List D}, OpsOk C σ H F vs os → opds e n os = some ds → RVs C.K H F n vs ds
  | _, _, ds, .nil, g => by cases g; exact .nil
  | _, _, ds, .cons (os := os) (o := o) r t, g => by
    unfold opds at g
    split at g
    · rename_i d ds' e1 e2
      cases g
      exact .cons (opd_rv R r e1) (opds_rv R t e2)
    · cases g

/-! ### lists of operands -/
/-- the readings of operands, one behind another -/
def seqT : List TE → TA
  | [] => tNil
  | t :: ts => tCons t (seqT ts)
variable {Γ : List Fn} {G : List D} {C : Bx} {cl : Cl} {W : WX}
theorem seqT_of : ∀ (es : List E) (σ : L2.St) (H : Hp) (Q : List V → Hp → Prop), tOs C cl W (evO Γ G es) σ H Q → seqT (es.map fun x => tP C cl W (evP Γ G x)) σ H Q
  | [], σ, H, Q, h => by
    obtain ⟨e, F, R, p⟩ := h
    exact p H F (.refl _ _) R [] .nil
  | x :: es, σ, H, Q, h => by
    obtain ⟨e, F, R, p⟩ := h
    rw [evO_cons] at p
    refine ⟨e, F, R, Post.mono (Post.bind p) fun o e1 H1 F1 g1 R1 p1 v hv => ?_⟩
    refine seqT_of es σ H1 _ ⟨e1, F1, R1, Post.mono (Post.bind p1) fun os e2 H2 F2 g2 R2 p2 vs hvs => ?_⟩
    exact p2 H2 F2 (.refl _ _) R2 (v :: vs) (.cons (hv.grow g2) hvs)
end

/-! ### what does not change a list -/
def NewOk (K : PySem.W.Frag) (H : Hp) (H' : Hp) (F' : Fz) (v : V) : Out → Prop
  | .val d => Rep K H' F' v d
  | .own d => ∃ a, v = .ref a ∧ H a = none ∧ TL K H' F' a d ∧ ¬ F' a
/-- what a primitive asks of its values -/
def PR (K : PySem.W.Frag) (p : Pr) (vs : List V) (H : Hp) (Q : VK) : Prop :=
  ∃ F ds o, RVs K H F p.need vs ds ∧ (∀ a, F a → H a ≠ none) ∧ prim p ds = some o ∧ ∀ H' F' v, Ext H F H' F' (fun _ => False) → NewOk K H H' F' v o → Q v H'
section
variable {C : Bx} {cl : Cl} {W : WX} {e : Ev} {σ : L2.St} {H H' : Hp} {F F' : Fz}
theorem Rel.h0 (R : Rel C e σ H F) {a : Addr} (h : H a = none) : C.H0 a = none := by
  cases q : C.H0 a with
  | none => rfl
  | some o =>
    by_cases hb : a ∈ C.B.map (·.2)
    · obtain ⟨p, hp, rfl⟩ := List.mem_map.mp hb
      exact absurd h (R.lent p hp).1
    · rw [R.keep a o q hb] at h; cases h
theorem Rel.listy (R : Rel C e σ H F) {j : Nat} {a : Addr} (hl : (e.at j).listy = true) (h : σ.getD j none = some (.ref a)) : H a ≠ none := by
  have s := R.slot j
  rw [h] at s
  cases q : e.at j with
  | no => rw [q] at hl; cases hl
  | val d => rw [q] at hl; cases hl
  | st d => rw [q] at hl; cases hl
  | err d => rw [q] at hl; cases hl
  | own d => rw [q] at s; obtain ⟨b, e1, ⟨_, _, _, h1, _⟩, _⟩ := s; cases e1; rw [h1]; simp
  | bor d => rw [q] at s; obtain ⟨b, e1, ⟨_, _, _, h1, _⟩, _⟩ := s; cases e1; rw [h1]; simp
  | ro d => rw [q] at s; obtain ⟨b, e1, t⟩ := s; cases e1; obtain ⟨_, _, _, h1, _⟩ := t.tl R; rw [h1]; simp
theorem NewOk.out {v : V} {o : Out} (R : Rel C e σ H F) (x : Ext H F H' F' (fun _ => False)) (h : NewOk C.K H H' F' v o) : OutOk C e σ H' F' v o := by
  cases o with
  | val d => exact h
  | own d =>
    obtain ⟨a, rfl, h1, h2, h3⟩ := h
    exact ⟨a, rfl, h2, h3, R.h0 h1, fun j hl hj => R.listy hl hj h1, fun p hp z => by rw [← z, (R.pin p hp).1] at h1; cases h1⟩
/-- the reading of a primitive's values from the evaluator's -/
theorem prim_of {Γ : List Fn} {G : List D} {p : Pr} {es : List E} {Q : VK} (h : tE C cl W (fun e => (evO Γ G es e).bind fun os e1 => primR p (opds e1 p.need os) e1) σ H Q) :
    seqT (es.map fun x => tP C cl W (evP Γ G x)) σ H (fun vs H1 => PR C.K p vs H1 Q) := by
  obtain ⟨e, F, R, q⟩ := h
  refine seqT_of es σ H _ ⟨e, F, R, Post.mono (Post.bind q) fun os e1 H1 F1 g1 R1 p1 vs hvs => ?_⟩
  cases hd : opds e1 p.need os with
  | none => rw [hd] at p1; exact False.elim p1
  | some ds =>
    rw [hd] at p1
    unfold primR at p1
    dsimp only at p1
    cases ho : prim p ds with
    | none => rw [ho] at p1; exact False.elim p1
    | some o =>
      rw [ho] at p1
      exact ⟨F1, ds, o, opds_rv R1 hvs hd, R1.tr, ho, fun H' F' v x n => p1 H' F' x.grow (R1.ext x) v (n.out R1 x)⟩
end
/-- nothing new -/
theorem Ext.same {H : Hp} {F : Fz} (t : ∀ a, F a → H a ≠ none) : Ext H F H F (fun _ => False) := ⟨fun _ _ h _ => h, fun _ h => h, fun _ h => .inl h, t, fun _ h => h.elim⟩
/-- one new thing, not frozen -/
theorem Ext.new {H : Hp} {F : Fz} {p : Addr} {o : HO} (hp : H p = none) (t : ∀ a, F a → H a ≠ none) : Ext H F (upd H p o) F (fun _ => False) :=
  ⟨fun a u h _ => by rw [upd_ne (ne_of_none h hp)]; exact h, fun _ h => h, fun _ h => .inl h, fun a h => by
    by_cases q : a = p
    · subst q; rw [upd_same]; simp
    · rw [upd_ne q]; exact t a h, fun _ h => h.elim⟩
/-- .. frozen -/
theorem Ext.newF {H : Hp} {F : Fz} {p : Addr} {o : HO} (hp : H p = none) (t : ∀ a, F a → H a ≠ none) : Ext H F (upd H p o) (fun b => F b ∨ b = p) (fun _ => False) :=
  ⟨fun a u h _ => by rw [upd_ne (ne_of_none h hp)]; exact h, fun _ h => .inl h, fun a h => by
    rcases h with h | h
    · exact .inl h
    · subst h; exact .inr hp, fun a h => by
    by_cases q : a = p
    · subst q; rw [upd_same]; simp
    · rw [upd_ne q]
      rcases h with h | h
      · exact t a h
      · exact absurd h q, fun _ h => h.elim⟩
end Mini

set_option Elab.async false
set_option linter.all false
set_option maxRecDepth 100000
/-! Mini: the primitives by the hand layer's rules. -/
namespace Mini
open PySem PySem.Spec PyProof.Rows L2

section
variable {K : PySem.W.Frag} {H : Hp} {F : Fz} {n : Nat}
theorem RVs.nil_inv {ds : List D} (h : RVs K H F n [] ds) : ds = [] := by cases h; rfl
theorem RVs.cons_inv {v : V} {vs : List V} {ds : List D} (h : RVs K H F n (v :: vs) ds) : ∃ d r, ds = d :: r ∧ RV K H F n v d ∧ RVs K H F n vs r := by
  cases h with | cons a b => exact ⟨_, _, rfl, a, b⟩
end

/-- a primitive of one, of two values -/
def P1 (K : PySem.W.Frag) (p : Pr) : V → Hp → VK → Prop := fun x H Q => PR K p [x] H Q
def P2 (K : PySem.W.Frag) (p : Pr) : R2 := fun x y H Q => PR K p [x, y] H Q
theorem P1.inv {K : PySem.W.Frag} {p : Pr} {x : V} {H : Hp} {Q : VK} (h : P1 K p x H Q) : ∃ F a o, RV K H F p.need x a ∧ (∀ a, F a → H a ≠ none) ∧ prim p [a] = some o ∧ ∀ H' F' v, Ext H F H' F' (fun _ => False) → NewOk K H H' F' v o → Q v H' := by
  obtain ⟨F, ds, o, r, t, e, q⟩ := h
  obtain ⟨a, r1, rfl, ra, rr⟩ := r.cons_inv
  cases rr.nil_inv
  exact ⟨F, a, o, ra, t, e, q⟩
theorem P2.inv {K : PySem.W.Frag} {p : Pr} {x y : V} {H : Hp} {Q : VK} (h : P2 K p x y H Q) : ∃ F a b o, RV K H F p.need x a ∧ RV K H F p.need y b ∧ (∀ a, F a → H a ≠ none) ∧ prim p [a, b] = some o ∧ ∀ H' F' v, Ext H F H' F' (fun _ => False) → NewOk K H H' F' v o → Q v H' := by
  obtain ⟨F, ds, o, r, t, e, q⟩ := h
  obtain ⟨a, r1, rfl, ra, rr⟩ := r.cons_inv
  obtain ⟨b, r2, rfl, rb, rr⟩ := rr.cons_inv
  cases rr.nil_inv
  exact ⟨F, a, b, o, ra, rb, t, e, q⟩
theorem _root_.L2.OpR.imp {X : Cx} {f : Value → Value → Sem Value} {r r' : R2} (h : OpR X f r) (i : ∀ x y H Q, r' x y H Q → r x y H Q) : OpR X f r' :=
  fun pins s σ H x y v u Q I rx ry q => h pins s σ H x y v u Q I rx ry (i x y H Q q)

theorem sOf_length (s : List Nat) : (sOf s).length = s.length := by simp [sOf, Str.length]
theorem sOf_append (a b : List Nat) : sOf a ++ sOf b = sOf (a ++ b) := by
  show (⟨(sOf a).cps ++ (sOf b).cps⟩ : Str) = _
  simp [sOf]
theorem sOf_inj {a b : List Nat} : sOf a = sOf b ↔ a = b := by
  constructor
  · intro h
    have : (sOf a).cps.toList = (sOf b).cps.toList := by rw [h]
    simpa [sOf] using this
  · rintro rfl; rfl
theorem sOf_beq (a b : List Nat) : (sOf a == sOf b) = (a == b) := by
  by_cases h : a = b
  · subst h; simp
  · have h' : ¬ sOf a = sOf b := fun e => h (sOf_inj.mp e)
    rw [beq_eq_false_iff_ne.mpr h, beq_eq_false_iff_ne.mpr h']
theorem StrOk.append {a b : List Nat} (h1 : StrOk a) (h2 : StrOk b) (h : a.length + b.length ≤ SZ) : StrOk (a ++ b) :=
  ⟨by rw [List.length_append]; exact h, fun c hc => (List.mem_append.mp hc).elim (h1.2 c) (h2.2 c)⟩

/-! ### data as the library's -/
theorem eqv_toPy (n : Nat) : ∀ (a b : D) (m : Nat), plain n a = true → plain m b = true → PyData.eqv (toPy a) (toPy b) = deq a b := by
  have go : ∀ (n : Nat), (∀ (a b : D) (m : Nat), plain n a = true → plain m b = true → PyData.eqv (toPy a) (toPy b) = deq a b) ∧ (∀ (a b : List D) (m : Nat), plainL n a = true → plainL m b = true → PyData.eqvAll (toPyL a) (toPyL b) = deqL a b) := by
    intro n
    induction n with
    | zero =>
      have h1 : ∀ (a b : D) (m : Nat), plain 0 a = true → plain m b = true → PyData.eqv (toPy a) (toPy b) = deq a b := by
        intro a b m ha hb
        cases a <;> cases b <;> first
          | (cases m <;> simp [plain] at hb; done)
          | (simp [plain] at ha; done)
          | simp [toPy, PyData.eqv, deq, sOf_beq]
      refine ⟨h1, fun a => ?_⟩
      induction a with
      | nil => intro b m ha hb; cases b <;> simp [toPyL, PyData.eqvAll, deqL]
      | cons x xs ih =>
        intro b m ha hb
        cases b with
        | nil => simp [toPyL, PyData.eqvAll, deqL]
        | cons y ys =>
          simp only [plainL, Bool.and_eq_true] at ha hb
          simp only [toPyL, PyData.eqvAll, deqL]
          rw [h1 x y m ha.1 hb.1, ih ys m ha.2 hb.2]
    | succ n ih =>
      have h1 : ∀ (a b : D) (m : Nat), plain (n + 1) a = true → plain m b = true → PyData.eqv (toPy a) (toPy b) = deq a b := by
        intro a b m ha hb
        cases a <;> cases b <;> first
          | (simp [plain] at ha; done)
          | (cases m <;> simp [plain] at hb; done)
          | (simp only [toPy, PyData.eqv, deq, sOf_beq]; done)
          | (cases m with
             | zero => simp [plain] at hb
             | succ m =>
               simp only [plain] at ha hb
               simp only [toPy, PyData.eqv, deq]
               exact ih.2 _ _ m ha hb)
      refine ⟨h1, fun a => ?_⟩
      induction a with
      | nil => intro b m ha hb; cases b <;> simp [toPyL, PyData.eqvAll, deqL]
      | cons x xs ih =>
        intro b m ha hb
        cases b with
        | nil => simp [toPyL, PyData.eqvAll, deqL]
        | cons y ys =>
          simp only [plainL, Bool.and_eq_true] at ha hb
          simp only [toPyL, PyData.eqvAll, deqL]
          rw [h1 x y m ha.1 hb.1, ih ys m ha.2 hb.2]
  exact (go n).1
theorem depth_toPy : ∀ (n : Nat), (∀ a : D, plain n a = true → (toPy a).depth ≤ n) ∧ (∀ a : List D, plainL n a = true → PyData.depthAll (toPyL a) ≤ n) := by
  intro n
  induction n with
  | zero =>
    have h1 : ∀ a : D, plain 0 a = true → (toPy a).depth ≤ 0 := by
      intro a ha
      cases a <;> first
        | (simp [plain] at ha; done)
        | simp [toPy, PyData.depth]
    refine ⟨h1, fun a => ?_⟩
    induction a with
    | nil => intro _; simp [toPyL, PyData.depthAll]
    | cons x xs ih =>
      intro ha
      simp only [plainL, Bool.and_eq_true] at ha
      simp only [toPyL, PyData.depthAll]
      exact Nat.max_le.mpr ⟨h1 x ha.1, ih ha.2⟩
  | succ n ih =>
    have h1 : ∀ a : D, plain (n + 1) a = true → (toPy a).depth ≤ n + 1 := by
      intro a ha
      cases a <;> first
        | (simp [plain] at ha; done)
        | (simp [toPy, PyData.depth]; done)
        | (simp only [plain] at ha
           simp only [toPy, PyData.depth]
           exact Nat.succ_le_succ (ih.2 _ ha))
    refine ⟨h1, fun a => ?_⟩
    induction a with
    | nil => intro _; simp [toPyL, PyData.depthAll]
    | cons x xs ih =>
      intro ha
      simp only [plainL, Bool.and_eq_true] at ha
      simp only [toPyL, PyData.depthAll]
      exact Nat.max_le.mpr ⟨h1 x ha.1, ih ha.2⟩
theorem strOk_of {s : List Nat} (h : StrOk s) : PyData.canLay0 (.str (sOf s)) = true := by
  simp only [PyData.canLay0, PyData.strOk, sOf]
  simpa using h.2
section
variable {K : PySem.W.Frag} {H : Hp} {F : Fz}
mutual
theorem Rep.dp : ∀ {v : V} {d : D}, Rep K H F v d → Dp K H v (toPy d) ∧ PyData.canLay0 (toPy d) = true
  | _, _, .non => ⟨.non, rfl⟩
  | _, _, .bl b => ⟨.bl b, rfl⟩
  | _, _, .int i => ⟨.int i, rfl⟩
  | _, _, .str s h => ⟨.str _, strOk_of h⟩
  | _, _, .lst f e r => ⟨.lst (.of e) (RepL.dp r).1, (RepL.dp r).2⟩
  | _, _, .tup f e r => ⟨.tup (.of e) (RepL.dp r).1, (RepL.dp r).2⟩
  | _, _, .tupK h r => ⟨.tup (h _) (RepL.dp r).1, (RepL.dp r).2⟩
theorem RepL.dp : ∀ {vs : List V} {ds : List D}, RepL K H F vs ds → DpAll K H vs (toPyL ds) ∧ PyData.canLayAll0 (toPyL ds) = true
  | _, _, .nil => ⟨.nil, rfl⟩
  | _, _, .cons r t => ⟨.cons (Rep.dp r).1 (RepL.dp t).1, by simp only [toPyL, PyData.canLayAll0, (Rep.dp r).2, (RepL.dp t).2, Bool.and_self]⟩
end
theorem RV.dp {n : Nat} {v : V} {d : D} (h : RV K H F n v d) : Dp K H v (toPy d) ∧ PyData.canLay0 (toPy d) = true := by
  have go : ∀ {a : Addr}, RL K H F a d → Dp K H (.ref a) (toPy d) ∧ PyData.canLay0 (toPy d) = true := fun ⟨xs, ds, e, h1, h2⟩ => by
    subst e
    exact ⟨.lst h1 h2.dp.1, h2.dp.2⟩
  rcases h with h | ⟨_, a, rfl, t⟩ | ⟨_, a, rfl, t⟩
  · exact h.dp
  · exact go t.rl
  · exact go t
theorem shaped_of {d : D} (h : plain 60 d = true) (c : PyData.canLay0 (toPy d) = true) : SeqAt.shaped (toPy d) = true := by
  unfold SeqAt.shaped
  rw [c, Bool.true_and]
  exact decide_eq_true (Nat.le_trans ((depth_toPy 60).1 d h) (by decide))
/-- flat values -/
theorem RV.flat {n : Nat} {v : V} {d : D} (h : RV K H F n v d) (f : flat d = true) : flatV v = true := by
  cases d with
  | non => rw [h.non]; rfl
  | bl b => rw [h.bl]; rfl
  | int i => rw [h.int]; rfl
  | str s => rw [h.str.1]; rfl
  | _ => cases f
theorem RV.eqV {n m : Nat} {v u : V} {d c : D} (h : RV K H F n v d) (k : RV K H F m u c) (f : Mini.flat d = true) (g : Mini.flat c = true) : L2.eqV v u = deq d c := by
  cases d <;> first
    | (cases f; done)
    | (cases c <;> first
        | (cases g; done)
        | (first | rw [h.non] | rw [h.bl] | rw [h.int] | rw [h.str.1]
           first | rw [k.non] | rw [k.bl] | rw [k.int] | rw [k.str.1]
           simp [L2.eqV, deq, sOf_beq]))
theorem Rep.rv {n : Nat} {v : V} {d : D} (h : Rep K H F v d) : RV K H F n v d := .inl h
theorem RepL.flat : ∀ {xs : List V} {ds : List D}, RepL K H F xs ds → ds.all Mini.flat = true → xs.all flatV = true
  | _, _, .nil, _ => rfl
  | _, _, .cons r t, f => by
    rw [List.all_cons, Bool.and_eq_true] at f ⊢
    exact ⟨(r.rv (n := 0)).flat f.1, RepL.flat t f.2⟩
theorem RepL.inV {m : Nat} {x : V} {d : D} (k : RV K H F m x d) (g : Mini.flat d = true) : ∀ {xs : List V} {ds : List D}, RepL K H F xs ds → ds.all Mini.flat = true → L2.inV x xs = ds.any fun y => deq y d
  | _, _, .nil, _ => rfl
  | _, _, .cons r t, f => by
    rw [List.all_cons, Bool.and_eq_true] at f
    show (L2.eqV _ x || L2.inV x _) = _
    rw [(r.rv (n := 0)).eqV k f.1 g, RepL.inV k g t f.2]
    rfl
theorem RepL.ints : ∀ {xs : List V} {ds : List D} {ns : List Int}, RepL K H F xs ds → intsD ds = some ns → xs = ns.map V.int
  | _, _, _, .nil, h => by cases h; rfl
  | _, d :: ds, _, .cons r t, h => by
    cases d <;> simp [Mini.intsD] at h
    obtain ⟨ms, h1, rfl⟩ := h
    rw [(r.rv (n := 0)).int, RepL.ints t h1]; rfl
theorem RepL.bls : ∀ {xs : List V} {ds : List D} {ns : List Bool}, RepL K H F xs ds → blsD ds = some ns → xs = ns.map V.bl
  | _, _, _, .nil, h => by cases h; rfl
  | _, d :: ds, _, .cons r t, h => by
    cases d <;> simp [Mini.blsD] at h
    obtain ⟨ms, h1, rfl⟩ := h
    rw [(r.rv (n := 0)).bl, RepL.bls t h1]; rfl
end

/-! ### operators -/
section
variable {X : Cx}
/-- a scalar -/
theorem q_sc {K : PySem.W.Frag} {H : Hp} {F : Fz} {Q : VK} {v : V} {d : D} (t : ∀ a, F a → H a ≠ none) (q : ∀ H' F' v, Ext H F H' F' (fun _ => False) → NewOk K H H' F' v (.val d) → Q v H') (r : Rep K H F v d) : Q v H :=
  q H F v (.same t) r
/-- a new list -/
theorem q_ls {K : PySem.W.Frag} {H : Hp} {F : Fz} {Q : VK} {ds : List D} {xs : List V} {p : Addr} (t : ∀ a, F a → H a ≠ none) (q : ∀ H' F' v, Ext H F H' F' (fun _ => False) → NewOk K H H' F' v (.own (.lst ds)) → Q v H')
    (r : RepL K H F xs ds) (hp : H p = none) : Q (.ref p) (upd H p (.lst xs)) := by
  have x := Ext.new (o := .lst xs) hp t
  exact q _ F _ x ⟨p, rfl, hp, ⟨xs, ds, rfl, upd_same, r.grow x.grow⟩, fun z => t p z hp⟩
/-- a new tuple -/
theorem q_tp {K : PySem.W.Frag} {H : Hp} {F : Fz} {Q : VK} {ds : List D} {xs : List V} {p : Addr} (t : ∀ a, F a → H a ≠ none) (q : ∀ H' F' v, Ext H F H' F' (fun _ => False) → NewOk K H H' F' v (.val (.tup ds)) → Q v H')
    (r : RepL K H F xs ds) (hp : H p = none) : Q (.ref p) (upd H p (.tup xs)) := by
  have x := Ext.newF (o := .tup xs) hp t
  exact q _ _ _ x (Rep.tup (.inr rfl) upd_same (r.grow x.grow))

theorem po_add : OpR X (binaryOp .Add) (P2 X.K .add) := by
  intro pins s σ H x y v u Q I rx ry h
  obtain ⟨F, a, b, o, ra, rb, t, e, q⟩ := h.inv
  cases a <;> cases b <;> simp [prim] at e
  case int.int i j =>
    subst e
    exact op_add pins s σ H x y v u Q I rx ry ⟨i, j, ra.int, rb.int, q_sc t q (.int _)⟩
  case str.str i j =>
    obtain ⟨hl, rfl⟩ := e
    obtain ⟨e1, s1⟩ := ra.str
    obtain ⟨e2, s2⟩ := rb.str
    refine op_add_str pins s σ H x y v u Q I rx ry ⟨sOf i, sOf j, e1, e2, ?_, ?_⟩
    · rw [sOf_length, sOf_length, ← SZ_eq]; exact hl
    · rw [sOf_append]; exact q_sc t q (.str _ (s1.append s2 hl))
  case lst.lst i j =>
    obtain ⟨hl, rfl⟩ := e
    obtain ⟨a1, xs, e1, h1, r1⟩ := RV.lst1 ra
    obtain ⟨a2, ys, e2, h2, r2⟩ := RV.lst1 rb
    refine op_cat pins s σ H x y v u Q I rx ry ⟨a1, a2, xs, ys, e1, e2, h1, h2, ?_, fun p hp => q_ls t q (r1.append r2) hp⟩
    rw [r1.length, r2.length, ← SZ_eq]; exact hl
theorem po_sub : OpR X (binaryOp .Sub) (P2 X.K .sub) := by
  intro pins s σ H x y v u Q I rx ry h
  obtain ⟨F, a, b, o, ra, rb, t, e, q⟩ := h.inv
  cases a <;> cases b <;> simp [prim] at e
  case int.int i j =>
    subst e
    exact op_sub pins s σ H x y v u Q I rx ry ⟨i, j, ra.int, rb.int, q_sc t q (.int _)⟩
theorem po_mul : OpR X (binaryOp .Mult) (P2 X.K .mul) := by
  intro pins s σ H x y v u Q I rx ry h
  obtain ⟨F, a, b, o, ra, rb, t, e, q⟩ := h.inv
  cases a <;> cases b <;> simp [prim] at e
  case int.int i j =>
    obtain ⟨hm, rfl⟩ := e
    exact op_mulW pins s σ H x y v u Q I rx ry ⟨i, j, ra.int, rb.int, (by unfold CMulW; simpa [mulOk] using hm), q_sc t q (.int _)⟩
  case lst.int i k =>
    obtain ⟨⟨⟨h1, h2⟩, h3⟩, rfl⟩ := e
    obtain ⟨a1, xs, e1, k1, r1⟩ := RV.lst1 ra
    refine op_rep pins s σ H x y v u Q I rx ry ⟨a1, k, xs, e1, rb.int, k1, h1, h2, ?_, ?_⟩
    · rw [r1.length, ← SZ_eq]; exact h3
    · intro p hp
      exact q_ls t q (r1.rep k.toNat) hp
  case str.int z k =>
    obtain ⟨⟨⟨h1, h2⟩, h3⟩, rfl⟩ := e
    obtain ⟨e1, s1⟩ := ra.str
    have e2 := rb.int
    subst e1 e2
    obtain ⟨tk, rfl⟩ := rx
    obtain ⟨tk', rfl⟩ := ry
    have fin : ∀ {y : Str} {u : Tok} {j : Nat}, y = sOf (List.replicate k.toNat z).flatten → EP X pins σ Q (.str y u) { s with toks := j } := fun {y u j} ey => by
      subst ey
      refine ⟨.str _, H, I.tok j, ⟨u, rfl⟩, q_sc t q (.str _ ⟨?_, fun c hc => ?_⟩)⟩
      · rw [List.length_flatten, List.map_replicate, List.sum_replicate_nat, Nat.mul_comm]; exact h3
      · obtain ⟨l, hl, hc⟩ := List.mem_flatten.mp hc
        rw [List.eq_of_mem_replicate hl] at hc
        exact s1.2 c hc
    refine PySem.P.mul_str (by rw [Bool.or_eq_false_iff]; exact ⟨decide_eq_false (by omega), decide_eq_false (by omega)⟩) (fun k1 k2 => ?_) (fun k1 k2 => ?_) ?_
    · have h3' : (sOf z).length * k.toNat ≤ SZ := by rw [sOf_length]; exact h3
      have hz : ((sOf z).length : Int) * k ≤ 2 ^ 63 - 1 := by
        have : (((sOf z).length * k.toNat : Nat) : Int) ≤ 16777216 := Int.ofNat_le.mpr h3'
        rw [Int.natCast_mul, Int.toNat_of_nonneg (by omega)] at this
        exact Int.le_trans this (by decide)
      have := Int.le_ediv_of_mul_le (show (0 : Int) < k by omega) hz
      omega
    · exact PyProof.Rows.short24 (by rw [sOf_length]; exact h3)
    · split
      · have hk : k.toNat = 0 := by omega
        exact ⟨by show 0 ≤ _; decide, fin (by rw [hk]; rfl)⟩
      · split
        · rename_i hn hc
          rw [Bool.or_eq_true, beq_iff_eq, beq_iff_eq] at hc
          refine fin (y := sOf z) (j := s.toks) ?_
          rcases hc with rfl | hc
          · simp
          · have hz : z = [] := by
              rw [sOf_length] at hc
              exact List.eq_nil_of_length_eq_zero hc
            subst hz
            rw [List.flatten_replicate_nil]
        · have hf : ∀ (n : Nat) (acc : Array Nat), ((List.replicate n (sOf z).cps).foldl (· ++ ·) acc).toList = acc.toList ++ (List.replicate n z).flatten := fun n => by
            induction n with
            | zero => intro acc; simp
            | succ n ih =>
              intro acc
              rw [List.replicate_succ, List.foldl_cons, ih, Array.toList_append, List.replicate_succ, List.flatten_cons, List.append_assoc]
              rfl
          have he : (⟨(List.replicate k.toNat (sOf z).cps).foldl (· ++ ·) #[]⟩ : Str) = sOf (List.replicate k.toNat z).flatten := by
            have h5 := hf k.toNat #[]
            rw [List.nil_append] at h5
            show (⟨(List.replicate k.toNat (sOf z).cps).foldl (· ++ ·) #[]⟩ : Str) = ⟨(List.replicate k.toNat z).flatten.toArray⟩
            rw [← h5]
          refine ⟨?_, fin he⟩
          rw [he, sOf_length, List.length_flatten, List.map_replicate, List.sum_replicate_nat, Nat.mul_comm, ← SZ_eq]; exact h3
theorem po_fdiv : OpR X (binaryOp .FloorDiv) (P2 X.K .fdiv) := by
  have op : OpR X (binaryOp .FloorDiv) (rI (fun _ j => j ≠ 0 ∧ j.natAbs.log2 < 9000) fun i j => .int (i.fdiv j)) := opI fun _ _ _ _ _ _ _ hc q => floordiv_int hc.1 q (.inl (PyProof.noPylong_of_log2 hc.2))
  intro pins s σ H x y v u Q I rx ry h
  obtain ⟨F, a, b, o, ra, rb, t, e, q⟩ := h.inv
  cases a <;> cases b <;> simp [prim] at e
  case int.int i j =>
    obtain ⟨hm, rfl⟩ := e
    simp only [divOk, Bool.and_eq_true, decide_eq_true_eq] at hm
    exact op pins s σ H x y v u Q I rx ry ⟨i, j, ra.int, rb.int, hm, q_sc t q (.int _)⟩
theorem po_mod : OpR X (binaryOp .Mod) (P2 X.K .mod) := by
  intro pins s σ H x y v u Q I rx ry h
  obtain ⟨F, a, b, o, ra, rb, t, e, q⟩ := h.inv
  cases a <;> cases b <;> simp [prim] at e
  case int.int i j =>
    obtain ⟨hm, rfl⟩ := e
    exact op_modN pins s σ H x y v u Q I rx ry ⟨i, j, ra.int, rb.int, hm, q_sc t q (.int _)⟩
theorem po_pow : OpR X (binaryOp .Pow) (P2 X.K .pow) := by
  intro pins s σ H x y v u Q I rx ry h
  obtain ⟨F, a, b, o, ra, rb, t, e, q⟩ := h.inv
  cases a <;> cases b <;> simp [prim] at e
  case int.int i j =>
    obtain ⟨hm, rfl⟩ := e
    simp only [powOk, Bool.and_eq_true, decide_eq_true_eq] at hm
    exact op_pow pins s σ H x y v u Q I rx ry ⟨i, j, ra.int, rb.int, ⟨hm.1.1, hm.1.2, hm.2⟩, q_sc t q (.int _)⟩
theorem po_neg : UnR X (unaryOp .USub) (P1 X.K .neg) := by
  intro pins s σ H x v Q I rx h
  obtain ⟨F, a, o, ra, t, e, q⟩ := h.inv
  cases a <;> simp [prim] at e
  case int i =>
    subst e
    exact un_neg pins s σ H x v Q I rx ⟨i, ra.int, q_sc t q (.int _)⟩
theorem po_eq (hu : X.A.units + 64 < cLine) : OpR X (compareOp .Eq) (P2 X.K .eq) := by
  intro pins s σ H x y v u Q I rx ry h
  obtain ⟨F, a, b, o, ra, rb, t, e, q⟩ := h.inv
  simp only [prim] at e
  split at e
  · rename_i hc
    rw [Bool.and_eq_true] at hc
    cases e
    obtain ⟨d1, c1⟩ := ra.dp
    obtain ⟨d2, c2⟩ := rb.dp
    refine op_eqD hu pins s σ H x y v u Q I rx ry ⟨_, _, d1, d2, shaped_of hc.1 c1, shaped_of hc.2 c2, ?_⟩
    rw [eqv_toPy 60 a b 60 hc.1 hc.2]
    exact q_sc t q (.bl _)
  · cases e
theorem po_ne (hu : X.A.units + 64 < cLine) : OpR X (compareOp .NotEq) (P2 X.K .ne) := by
  intro pins s σ H x y v u Q I rx ry h
  obtain ⟨F, a, b, o, ra, rb, t, e, q⟩ := h.inv
  simp only [prim] at e
  split at e
  · rename_i hc
    rw [Bool.and_eq_true] at hc
    cases e
    obtain ⟨d1, c1⟩ := ra.dp
    obtain ⟨d2, c2⟩ := rb.dp
    refine op_neD hu pins s σ H x y v u Q I rx ry ⟨_, _, d1, d2, shaped_of hc.1 c1, shaped_of hc.2 c2, ?_⟩
    rw [eqv_toPy 60 a b 60 hc.1 hc.2]
    exact q_sc t q (.bl _)
  · cases e
theorem po_lt : OpR X (compareOp .Lt) (P2 X.K .lt) := by
  intro pins s σ H x y v u Q I rx ry h
  obtain ⟨F, a, b, o, ra, rb, t, e, q⟩ := h.inv
  cases a <;> cases b <;> simp [prim] at e
  case int.int i j =>
    subst e
    exact op_lt pins s σ H x y v u Q I rx ry ⟨i, j, ra.int, rb.int, q_sc t q (.bl _)⟩
  case str.str i j =>
    subst e
    obtain ⟨e1, _⟩ := ra.str
    obtain ⟨e2, _⟩ := rb.str
    refine op_lt_str pins s σ H x y v u Q I rx ry ⟨sOf i, sOf j, e1, e2, ?_⟩
    exact q_sc t q (.bl _)
theorem po_le : OpR X (compareOp .LtE) (P2 X.K .le) := by
  intro pins s σ H x y v u Q I rx ry h
  obtain ⟨F, a, b, o, ra, rb, t, e, q⟩ := h.inv
  cases a <;> cases b <;> simp [prim] at e
  case int.int i j =>
    subst e
    exact op_le pins s σ H x y v u Q I rx ry ⟨i, j, ra.int, rb.int, q_sc t q (.bl _)⟩
  case str.str i j =>
    subst e
    obtain ⟨e1, _⟩ := ra.str
    obtain ⟨e2, _⟩ := rb.str
    refine op_le_str pins s σ H x y v u Q I rx ry ⟨sOf i, sOf j, e1, e2, ?_⟩
    exact q_sc t q (.bl _)
theorem po_gt : OpR X (compareOp .Gt) (P2 X.K .gt) := by
  intro pins s σ H x y v u Q I rx ry h
  obtain ⟨F, a, b, o, ra, rb, t, e, q⟩ := h.inv
  cases a <;> cases b <;> simp [prim] at e
  case int.int i j =>
    subst e
    exact op_gt pins s σ H x y v u Q I rx ry ⟨i, j, ra.int, rb.int, q_sc t q (.bl _)⟩
  case str.str i j =>
    subst e
    obtain ⟨e1, _⟩ := ra.str
    obtain ⟨e2, _⟩ := rb.str
    refine op_gt_str pins s σ H x y v u Q I rx ry ⟨sOf i, sOf j, e1, e2, ?_⟩
    exact q_sc t q (.bl _)
theorem po_ge : OpR X (compareOp .GtE) (P2 X.K .ge) := by
  intro pins s σ H x y v u Q I rx ry h
  obtain ⟨F, a, b, o, ra, rb, t, e, q⟩ := h.inv
  cases a <;> cases b <;> simp [prim] at e
  case int.int i j =>
    subst e
    exact op_ge pins s σ H x y v u Q I rx ry ⟨i, j, ra.int, rb.int, q_sc t q (.bl _)⟩
  case str.str i j =>
    subst e
    obtain ⟨e1, _⟩ := ra.str
    obtain ⟨e2, _⟩ := rb.str
    refine op_ge_str pins s σ H x y v u Q I rx ry ⟨sOf i, sOf j, e1, e2, ?_⟩
    exact q_sc t q (.bl _)
theorem po_in : OpR X (compareOp .In) (P2 X.K .isin) := by
  intro pins s σ H x y v u Q I rx ry h
  obtain ⟨F, a, b, o, ra, rb, t, e, q⟩ := h.inv
  cases b with
  | lst ys =>
    simp only [prim] at e
    split at e
    · rename_i hc
      rw [Bool.and_eq_true] at hc
      cases e
      obtain ⟨p, xs, e1, h1, r1⟩ := rb.lst
      refine op_in_seq pins s σ H x y v u Q I rx ry ⟨p, xs, e1, .inl h1, ra.flat hc.1, r1.flat hc.2, ?_⟩
      rw [if_neg (by decide), r1.inV ra hc.1 hc.2]
      exact q_sc t q (.bl _)
    · cases e
  | tup ys =>
    simp only [prim] at e
    split at e
    · rename_i hc
      rw [Bool.and_eq_true] at hc
      cases e
      obtain ⟨p, xs, e1, h1, r1⟩ := rb.tup
      refine op_in_seq pins s σ H x y v u Q I rx ry ⟨p, xs, e1, .inr h1, ra.flat hc.1, r1.flat hc.2, ?_⟩
      rw [if_neg (by decide), r1.inV ra hc.1 hc.2]
      exact q_sc t q (.bl _)
    · cases e
  | str z =>
    obtain ⟨e2, _⟩ := rb.str
    cases a <;> simp [prim] at e
    rename_i w
    match w, e with
    | [c], e =>
      simp [prim] at e
      subst e
      obtain ⟨e1, _⟩ := ra.str
      exact op_in_sign pins s σ H x y v u Q I rx ry ⟨c, sOf z, e1, e2, q_sc t q (.bl _)⟩
    | [], e => simp [prim] at e
    | _ :: _ :: _, e => simp [prim] at e
  | _ => simp [prim] at e
theorem po_notin : OpR X (compareOp .NotIn) (P2 X.K .notin) := by
  intro pins s σ H x y v u Q I rx ry h
  obtain ⟨F, a, b, o, ra, rb, t, e, q⟩ := h.inv
  cases b with
  | lst ys =>
    simp only [prim] at e
    split at e
    · rename_i hc
      rw [Bool.and_eq_true] at hc
      cases e
      obtain ⟨p, xs, e1, h1, r1⟩ := rb.lst
      refine op_notIn_seq pins s σ H x y v u Q I rx ry ⟨p, xs, e1, .inl h1, ra.flat hc.1, r1.flat hc.2, ?_⟩
      rw [if_pos rfl, r1.inV ra hc.1 hc.2]
      exact q_sc t q (.bl _)
    · cases e
  | tup ys =>
    simp only [prim] at e
    split at e
    · rename_i hc
      rw [Bool.and_eq_true] at hc
      cases e
      obtain ⟨p, xs, e1, h1, r1⟩ := rb.tup
      refine op_notIn_seq pins s σ H x y v u Q I rx ry ⟨p, xs, e1, .inr h1, ra.flat hc.1, r1.flat hc.2, ?_⟩
      rw [if_pos rfl, r1.inV ra hc.1 hc.2]
      exact q_sc t q (.bl _)
    · cases e
  | str z =>
    obtain ⟨e2, _⟩ := rb.str
    cases a <;> simp [prim] at e
    rename_i w
    match w, e with
    | [c], e =>
      simp [prim] at e
      subst e
      obtain ⟨e1, _⟩ := ra.str
      exact op_notIn_sign pins s σ H x y v u Q I rx ry ⟨c, sOf z, e1, e2, q_sc t q (.bl _)⟩
    | [], e => simp [prim] at e
    | _ :: _ :: _, e => simp [prim] at e
  | _ => simp [prim] at e
theorem po_isB : OpR X (compareOp .Is) (P2 X.K .isB) := by
  intro pins s σ H x y v u Q I rx ry h
  obtain ⟨F, a, b, o, ra, rb, t, e, q⟩ := h.inv
  cases a <;> cases b <;> simp [prim] at e
  case bl.bl i j =>
    subst e
    exact op_isBl pins s σ H x y v u Q I rx ry ⟨i, j, ra.bl, rb.bl, q_sc t q (.bl _)⟩
theorem po_notB : OpR X (compareOp .IsNot) (P2 X.K .notB) := by
  intro pins s σ H x y v u Q I rx ry h
  obtain ⟨F, a, b, o, ra, rb, t, e, q⟩ := h.inv
  cases a <;> cases b <;> simp [prim] at e
  case bl.bl i j =>
    subst e
    exact op_notBl pins s σ H x y v u Q I rx ry ⟨i, j, ra.bl, rb.bl, q_sc t q (.bl _)⟩
theorem Rep.non_iff {K : PySem.W.Frag} {H : Hp} {F : Fz} {v : V} {d : D} (r : Rep K H F v d) : decide (v = .non) = isNon d := by
  cases r <;> simp [isNon]
theorem po_isN : OpR X (compareOp .Is) (fun x y H Q => y = .non ∧ P1 X.K .isN x H Q) := by
  intro pins s σ H x y v u Q I rx ry h
  obtain ⟨hy, h⟩ := h
  obtain ⟨F, a, o, ra, t, e, q⟩ := h.inv
  simp [prim] at e
  subst e
  refine op_isN pins s σ H x y v u Q I rx ry ⟨hy, ?_⟩
  rw [(RV.rep ra).non_iff]
  exact q_sc t q (.bl _)
theorem po_notN : OpR X (compareOp .IsNot) (fun x y H Q => y = .non ∧ P1 X.K .notN x H Q) := by
  intro pins s σ H x y v u Q I rx ry h
  obtain ⟨hy, h⟩ := h
  obtain ⟨F, a, o, ra, t, e, q⟩ := h.inv
  simp [prim] at e
  subst e
  refine op_notN pins s σ H x y v u Q I rx ry ⟨hy, ?_⟩
  rw [(RV.rep ra).non_iff]
  exact q_sc t q (.bl _)
/-! ### subscripts -/
theorem sOf_at (z : List Nat) (i : Int) : L2.atI (sOf z).cps.toList i = Mini.atI z i := by
  show L2.atI z.toArray.toList i = _
  rfl
theorem atI_rep {K : PySem.W.Frag} {H : Hp} {F : Fz} {xs : List V} {ds : List D} {i : Int} {d : D} (r : RepL K H F xs ds) (h : Mini.atI ds i = some d) : ∃ v, L2.atI xs i = some v ∧ Rep K H F v d := by
  unfold Mini.atI at h
  cases e : Mini.ixN ds.length i with
  | none => rw [e] at h; cases h
  | some j =>
    rw [e] at h
    obtain ⟨v, h1, h2⟩ := r.get (i := j) (d := d) h
    refine ⟨v, ?_, h2⟩
    unfold L2.atI
    have e' : L2.ixN xs.length i = some j := by rw [r.length]; exact e
    rw [e']; exact h1
theorem po_ix : IxR X (P2 X.K .ix) := by
  intro value slice pins s σ H x y v u Q I rx ry h hs
  obtain ⟨F, a, b, o, ra, rb, t, e, q⟩ := h.inv
  cases a <;> cases b <;> simp [prim] at e
  case lst.int ds i =>
    obtain ⟨d, e, rfl⟩ := e
    obtain ⟨p, xs, e1, h1, r1⟩ := ra.lst
    obtain ⟨w, h2, r2⟩ := atI_rep r1 e
    exact ix_list value slice pins s σ H x y v u Q I rx ry ⟨p, xs, i, w, e1, rb.int, h1, h2, q_sc t q r2⟩ hs
  case tup.int ds i =>
    obtain ⟨d, e, rfl⟩ := e
    obtain ⟨p, xs, e1, h1, r1⟩ := ra.tup
    obtain ⟨w, h2, r2⟩ := atI_rep r1 e
    exact ix_tup value slice pins s σ H x y v u Q I rx ry ⟨p, xs, i, w, e1, rb.int, h1, h2, q_sc t q r2⟩ hs
  case str.int z i =>
    obtain ⟨c, e, rfl⟩ := e
    obtain ⟨e1, s1⟩ := ra.str
    have hc : c ∈ z := by
      unfold Mini.atI at e
      cases e2 : Mini.ixN z.length i with
      | none => rw [e2] at e; cases e
      | some j => rw [e2] at e; exact List.mem_of_getElem? e
    refine ix_str value slice pins s σ H x y v u Q I rx ry ⟨sOf z, i, c, e1, rb.int, ?_, ?_, ?_⟩ hs
    · rw [sOf_length, ← SZ_eq]; exact s1.1
    · rw [sOf_at]; exact e
    · refine q_sc t q (Rep.str [c] ⟨?_, fun k hk => ?_⟩)
      · show 1 ≤ SZ; decide
      · have : k = c := by simpa using hk
        subst this; exact s1.2 _ hc
end
end Mini

set_option Elab.async false
set_option linter.all false
set_option maxRecDepth 100000
/-! Mini: the look that a text of Mini is that of a def of the program. -/
namespace Mini
open PySem PySem.Spec PyProof.Rows L2

/-- what the look needs: the def's names by slot, the names of the defs and of the module's constants, the number of the def -/
structure Ck where
  N : List Str
  fns : List Str
  gls : List Str
  self : Nat
  cls : List Str := []
  /-- which class lies under which -/
  sub : Nat → Nat → Bool := fun _ _ => false
  /-- the text stands where an exception is handled; the defs that are called there -/
  hot : Bool := false
  hots : List Nat := []
/-- the classes that lie under the class m -/
def Ck.under (c : Ck) (m : Nat) : List Nat := (List.range c.cls.length).filter fun q => c.sub q m
/-- what is not done where an exception is handled -/
def coldP : Pr → Bool
  | .sum => true
  | .any => true
  | .all => true
  | .repr => true
  | .max => true
  | .min => true
  | _ => false
def glb (sc : Scope) (x : Str) : Bool := match sc.names.lookup x with
  | some .globalImplicit => true
  | _ => false
def seen (sc : Scope) (x : Str) : Bool := match sc.names.lookup x with
  | some .local => true
  | some .cell => true
  | some .free => true
  | _ => false
def stored (sc : Scope) (x : Str) : Bool := match sc.names.lookup x with
  | some .local => true
  | some .cell => true
  | _ => false
def okHead : Expr → Bool
  | .Starred .. => false
  | .Slice .. => false
  | .Set .. => false
  | _ => true
def leafT : Expr → Bool
  | .UnaryOp .. => false
  | .BoolOp .. => false
  | .IfExp .. => false
  | .Compare .. => false
  | _ => true
def nodebug (x : Str) : Bool := !(x == ("__debug__" : Str)) && !(x == ("__classdict__" : Str)) && !(x == ("__name__" : Str))
def chkNm (c : Ck) (sc : Scope) (i : Nat) : Expr → Bool
  | .Name x _ => decide (c.N[i]? = some x) && seen sc x && nodebug x
  | _ => false
def chkK : D → Expr → Bool
  | .int i, .Constant (.int j) _ _ => i == j
  | .bl i, .Constant (.bool j) _ _ => i == j
  | .non, .Constant .none _ _ => true
  | .str s, .Constant (.str x) _ _ => x.cps.toList == s && decide (s.length ≤ SZ) && s.all (fun k => decide (k < 0x110000))
  | _, _ => false
def blt (sc : Scope) (f : Str) (x : Str) : Bool := f == x && glb sc x
/-- the receiver of a method: not a call without arguments -/
def recv : Expr → Bool
  | .Call _ _ _ _ => false
  | _ => true
def cmpOf : Pr → CmpOp → Bool
  | .eq, .Eq => true
  | .ne, .NotEq => true
  | .lt, .Lt => true
  | .le, .LtE => true
  | .gt, .Gt => true
  | .ge, .GtE => true
  | _, _ => false
/-! the operands of a primitive's form -/
def binS (op : Operator) : Expr → Option (List Expr)
  | .BinOp a o b _ => if o == op then some [a, b] else none
  | _ => none
def cmpS (op : CmpOp) : Expr → Option (List Expr)
  | .Compare a [o] [b] _ => if o == op then some [a, b] else none
  | _ => none
def cmpN (op : CmpOp) : Expr → Option (List Expr)
  | .Compare a [o] [.Constant .none _ _] _ => if o == op then some [a] else none
  | _ => none
def callS (sc : Scope) (y : Str) : Expr → Option (List Expr)
  | .Call (.Name f _) [a] [] _ => if blt sc f y then some [a] else none
  | _ => none
def negS : Expr → Option (List Expr)
  | .UnaryOp .USub a _ => some [a]
  | _ => none
def ixS : Expr → Option (List Expr)
  | .Subscript a b _ => some [a, b]
  | _ => none
def tupS : Expr → Option (List Expr)
  | .Tuple es _ _ => some es
  | _ => none
def lstS : Expr → Option (List Expr)
  | .List es _ => some es
  | _ => none
/-- x in range(n) -/
def inRS (sc : Scope) : Expr → Option (List Expr)
  | .Compare a [.In] [.Call (.Name f _) [b] [] _] _ => if blt sc f "range" then some [a, b] else none
  | _ => none
def shp (sc : Scope) : Pr → Expr → Option (List Expr)
  | .add => binS .Add
  | .sub => binS .Sub
  | .mul => binS .Mult
  | .fdiv => binS .FloorDiv
  | .mod => binS .Mod
  | .pow => binS .Pow
  | .neg => negS
  | .eq => cmpS .Eq
  | .ne => cmpS .NotEq
  | .lt => cmpS .Lt
  | .le => cmpS .LtE
  | .gt => cmpS .Gt
  | .ge => cmpS .GtE
  | .inR => inRS sc
  | .isin => cmpS .In
  | .notin => cmpS .NotIn
  | .isB => cmpS .Is
  | .notB => cmpS .IsNot
  | .isN => cmpN .Is
  | .notN => cmpN .IsNot
  | .ix => ixS
  | .tup => tupS
  | .lst => lstS
  | .len => callS sc "len"
  | .abs => callS sc "abs"
  | .int => callS sc "int"
  | .str => callS sc "str"
  | .list => callS sc "list"
  | .sum => callS sc "sum"
  | .any => callS sc "any"
  | .all => callS sc "all"
  | .ord => callS sc "ord"
  | .repr => callS sc "repr"
  | _ => fun _ => none
def mtName : Mt → Str
  | .index => "index"
  | .split => "split"
  | .join => "join"
  | .scount => "count"
  | .sfind => "find"
  | .sindex => "index"
  | .lcount => "count"
def muName : Mu → Str
  | .append => "append"
  | .extend => "extend"
  | .pop => "pop"
  | .reverse => "reverse"
mutual
def chkPat (c : Ck) (sc : Scope) : Pat → Expr → Bool
  | .nm i, .Name x _ => decide (c.N[i]? = some x) && stored sc x
  | .tup ps, .Tuple es _ _ => chkPats c sc ps es
  | _, _ => false
def chkPats (c : Ck) (sc : Scope) : List Pat → List Expr → Bool
  | [], [] => true
  | p :: ps, e :: es => okHead e && chkPat c sc p e && chkPats c sc ps es
  | _, _ => false
end
/-! what is walked: the operands -/
def rngS1 (sc : Scope) : Expr → Option (List Expr)
  | .Call (.Name f _) [a] [] _ => if blt sc f "range" then some [a] else none
  | _ => none
def rngS2 (sc : Scope) : Expr → Option (List Expr)
  | .Call (.Name f _) [a, b] [] _ => if blt sc f "range" then some [a, b] else none
  | _ => none
def enumS (sc : Scope) : Expr → Option (List Expr)
  | .Call (.Name f _) [a] [] _ => if blt sc f "enumerate" then some [a] else none
  | _ => none
def zipS (sc : Scope) : Expr → Option (List Expr)
  | .Call (.Name f _) [a, b] [] _ => if blt sc f "zip" then some [a, b] else none
  | _ => none
def isTup : Expr → Bool
  | .Tuple _ _ _ => true
  | _ => false
def shpIt (sc : Scope) (tg : Expr) : ItK → Expr → Option (List Expr)
  | .seq, e => some [e]
  | .rng1, e => rngS1 sc e
  | .rng2, e => rngS2 sc e
  | .enum, e => if isTup tg then enumS sc e else none
  | .zip, e => if isTup tg then zipS sc e else none
  | .rng3, _ => none
/-! the pattern's slots -/
mutual
def Pat.slots : Pat → List Nat
  | .nm i => [i]
  | .tup ps => Pat.slotsL ps
def Pat.slotsL : List Pat → List Nat
  | [] => []
  | p :: ps => p.slots ++ Pat.slotsL ps
end
def E.isRd : E → Bool
  | .rd _ => true
  | _ => false
/-- the defs of a written list -/
def fnsOk (c : Ck) (sc : Scope) : List Nat → List Expr → Bool
  | [], [] => true
  | f :: fs, .Name y _ :: ys => glb sc y && nodebug y && decide (c.fns[f]? = some y) && decide (f < c.self) && !c.hots.contains f && fnsOk c sc fs ys
  | _, _ => false
mutual
def chkE (c : Ck) : Scope → E → Expr → Bool
  | sc, .v i, x => chkNm c sc i x
  | sc, .mv i, x => chkNm c sc i x
  | sc, .fz i, x => chkNm c sc i x
  | sc, .rd i, x => chkNm c sc i x
  | _, .k d, x => chkK d x
  | sc, .g j, x => match x with
    | .Name y _ => decide (c.gls[j]? = some y) && glb sc y && nodebug y
    | _ => false
  | sc, .pr p es, x => !(c.hot && coldP p) && (match shp sc p x with
    | some xs => chkL c sc es xs
    | none => false)
  | sc, .chain c1 c2 a b d, x => match x with
    | .Compare l [o1, o2] [m, r] _ => cmpOf c1 o1 && cmpOf c2 o2 && okHead l && okHead m && okHead r && !a.isRd && !b.isRd && !d.isRd && chkE c sc a l && chkE c sc b m && chkE c sc d r
    | _ => false
  | sc, .and a b, x => match x with
    | .BoolOp .And [l, r] _ => !a.isRd && !b.isRd && chkE c sc a l && chkE c sc b r
    | .BoolOp .And (l :: r :: r2 :: rs) pos => !a.isRd && !b.isRd && chkE c sc a l && chkE c sc b (.BoolOp .And (r :: r2 :: rs) pos)
    | _ => false
  | sc, .or a b, x => match x with
    | .BoolOp .Or [l, r] _ => !a.isRd && !b.isRd && chkE c sc a l && chkE c sc b r
    | .BoolOp .Or (l :: r :: r2 :: rs) pos => !a.isRd && !b.isRd && chkE c sc a l && chkE c sc b (.BoolOp .Or (r :: r2 :: rs) pos)
    | _ => false
  | sc, .not a, x => match x with
    | .UnaryOp .Not y _ => !a.isRd && chkE c sc a y
    | _ => false
  | _, .truth _, _ => false
  | sc, .ite t a b, x => match x with
    | .IfExp y l r _ => chkT c sc t y && !a.isRd && !b.isRd && chkE c sc a l && chkE c sc b r
    | _ => false
  | sc, .slc a lo hi, x => match x with
    | .Subscript y (.Slice l h none _) _ => okHead y && chkE c sc a y && chkB c sc lo l && chkB c sc hi h
    | _ => false
  | sc, .call f es, x => match x with
    | .Call (.Name y _) (a :: as) [] _ => glb sc y && nodebug y && decide (c.fns[f]? = some y) && decide (f < c.self) && (c.hots.contains f == c.hot) && chkL c sc es (a :: as)
    | _ => false
  | sc, .callx fs ix es, x => match x with
    | .Call (.Subscript (.List ys _) j _) (a :: as) [] _ => !c.hot && fnsOk c sc fs ys && decide (ys.length ≤ 1000) && okHead j && !ix.isRd && chkE c sc ix j && chkL c sc es (a :: as)
    | _ => false
  | sc, .isi i m ns, x => match x with
    | .Call (.Name f _) [a, .Name y _] [] _ => c.hot && blt sc f "isinstance" && chkNm c sc i a && decide (c.cls[m]? = some y) && glb sc y && nodebug y && decide (ns = c.under m)
    | _ => false
  | sc, .meth m a es, x => match x with
    | .Call (.Attribute o n ap) as [] cp => n == mtName m && ap.endLine == cp.line && recv o && decide (as.length = 1) && okHead o && chkE c sc a o && chkL c sc es as
    | _ => false
  | sc, .mu m i es, x => match x with
    | .Call (.Attribute o n ap) as [] cp => n == muName m && ap.endLine == cp.line && recv o && decide (as.length ≤ 1) && chkNm c sc i o && chkL c sc es as
    | _ => false
  | sc, .comp own pat it src cond elt, x => match x with
    | .ListComp y [⟨tg, iter, ifs, 0⟩] scope _ => !c.hot && blkC c.N sc scope (own.filterMap fun i => (c.N[i]?).map fun n => (n, i)) && decide ((own.filterMap fun i => (c.N[i]?).map fun n => (n, i)).map (·.2) = own) &&
      pat.slots.all (fun i => own.contains i) && okHead tg && okHead y && okHead iter && chkPat c scope pat tg && !elt.isRd && chkE c (relS scope sc) elt y && chkO c (relS scope sc) cond ifs && (match shpIt sc tg it iter with
      | some xs => chkL c sc src xs
      | none => false)
    | _ => false
def chkL (c : Ck) : Scope → List E → List Expr → Bool
  | _, [], [] => true
  | sc, e :: es, x :: xs => okHead x && chkE c sc e x && chkL c sc es xs
  | _, _, _ => false
def chkB (c : Ck) : Scope → Option E → Option Expr → Bool
  | _, none, none => true
  | sc, some e, some x => okHead x && !e.isRd && chkE c sc e x
  | _, _, _ => false
def chkO (c : Ck) : Scope → Option E → List Expr → Bool
  | _, none, [] => true
  | sc, some e, [x] => chkT c sc e x
  | _, _, _ => false
def chkT (c : Ck) : Scope → E → Expr → Bool
  | sc, .and a b, x => match x with
    | .BoolOp .And [l, r] _ => chkT c sc a l && chkT c sc b r
    | .BoolOp .And (l :: r :: r2 :: rs) pos => chkT c sc a l && chkT c sc b (.BoolOp .And (r :: r2 :: rs) pos)
    | _ => false
  | sc, .or a b, x => match x with
    | .BoolOp .Or [l, r] _ => chkT c sc a l && chkT c sc b r
    | .BoolOp .Or (l :: r :: r2 :: rs) pos => chkT c sc a l && chkT c sc b (.BoolOp .Or (r :: r2 :: rs) pos)
    | _ => false
  | sc, .not a, x => match x with
    | .UnaryOp .Not y _ => chkT c sc a y
    | _ => false
  | sc, .truth a, x => leafT x && chkE c sc a x
  | sc, .pr p es, x => !(c.hot && coldP p) && (leafT x || (match x with
    | .Compare .. => true
    | _ => false)) && (match shp sc p x with
    | some xs => chkL c sc es xs
    | none => false)
  | sc, .chain c1 c2 a b d, x => match x with
    | .Compare l [o1, o2] [m, r] _ => cmpOf c1 o1 && cmpOf c2 o2 && okHead l && okHead m && okHead r && !a.isRd && !b.isRd && !d.isRd && chkE c sc a l && chkE c sc b m && chkE c sc d r
    | _ => false
  | sc, .v i, x => leafT x && chkNm c sc i x
  | _, .k d, x => leafT x && chkK d x
  | sc, .call f es, x => match x with
    | .Call (.Name y _) (a :: as) [] _ => glb sc y && nodebug y && decide (c.fns[f]? = some y) && decide (f < c.self) && (c.hots.contains f == c.hot) && chkL c sc es (a :: as)
    | _ => false
  | _, _, _ => false
end
/-! ### statements -/
def augOf : Pr → Operator → Bool
  | .add, .Add => true
  | .sub, .Sub => true
  | _, _ => false
def isComp : Expr → Bool
  | .ListComp .. => true
  | .SetComp .. => true
  | .DictComp .. => true
  | _ => false
def starred : Expr → Bool
  | .Starred .. => true
  | _ => false
def nmLoc (sc : Scope) (line : Nat) : Expr → Option Str
  | .Name id pos => if sc.names.lookup id == some .local && pos.line == line then some id else none
  | _ => none
/-- as the library's look at a, b = x, y -/
def swT (sc : Scope) (ts vs : List Expr) : Option (Option (List Str)) :=
  if !(ts.length == 2 || ts.length == 3) || vs.length != ts.length then some none
  else if vs.any starred then some none
  else if (ts.filterMap (nmLoc sc ((ts.head?.map (·.pos.line)).getD 0))).length != ts.length || (ts.filterMap (nmLoc sc ((ts.head?.map (·.pos.line)).getD 0))).eraseDups.length != (ts.filterMap (nmLoc sc ((ts.head?.map (·.pos.line)).getD 0))).length then some none
  else if vs.all (foldedForSure 8) then some none
  else if vs.all (constantsAlone 8) then none
  else some (some (ts.filterMap (nmLoc sc ((ts.head?.map (·.pos.line)).getD 0))))
def swN (sc : Scope) (tg e : Expr) : Option (Option (List Str)) :=
  match tg, e with
  | .Tuple ts _ _, .Tuple vs _ _ => swT sc ts vs
  | .List _ _, _ => none
  | _, _ => some none
/-- name = [.. for ..]: is the list made for the name at once -/
def swC (sc : Scope) (tg e : Expr) : Bool := match e, tg with
  | .ListComp _ _ s p, .Name t pos => (match sc.names.lookup t with | some .local => true | _ => false) && pos.line == p.line && !(s.names.any fun (n, k) => n == t && (k == .local || k == .cell))
  | _, _ => false
def isLoc (c : Ck) (sc : Scope) (i : Nat) (x : Str) : Bool := decide (c.N[i]? = some x) && decide (sc.names.lookup x = some .local)
def par2C (c : Ck) (sc : Scope) (i j : Nat) : Stmt → Option (List Expr)
  | .Assign [.Tuple [.Name x px, .Name y py] k pt] (.Tuple [a, b] k2 p2) _ =>
    if isLoc c sc i x && isLoc c sc j y && decide (i ≠ j) && decide (swN sc (.Tuple [.Name x px, .Name y py] k pt) (.Tuple [a, b] k2 p2) = some (some [x, y])) then some [a, b] else none
  | _ => none
def par3C (c : Ck) (sc : Scope) (i j l : Nat) : Stmt → Option (List Expr)
  | .Assign [.Tuple [.Name x px, .Name y py, .Name z pz] k pt] (.Tuple [a, b, d] k2 p2) _ =>
    if isLoc c sc i x && isLoc c sc j y && isLoc c sc l z && decide (i ≠ j) && decide (i ≠ l) && decide (j ≠ l) && decide (swN sc (.Tuple [.Name x px, .Name y py, .Name z pz] k pt) (.Tuple [a, b, d] k2 p2) = some (some [x, y, z])) then some [a, b, d] else none
  | _ => none
def parC (c : Ck) (sc : Scope) (is : List Nat) (s : Stmt) : Option (List Expr) := match is with
  | [i, j] => par2C c sc i j s
  | [i, j, l] => par3C c sc i j l s
  | _ => none
/-! an except clause: its class, its name -/
def hdOk (c : Ck) (sc : Scope) (h : List Nat × Option Nat) (x : Str) (nm : Option Str) : Bool :=
  (match c.cls.findIdx? (· == x) with
  | some m => decide (h.1 = c.under m)
  | none => false) && glb sc x && nodebug x && (match h.2, nm with
  | some i, some n => isLoc c sc i n && nodebug n
  | _, _ => false)
def Pat.isNm : Pat → Bool
  | .nm _ => true
  | _ => false
def S.isWipe : S → Bool
  | .wipe _ => true
  | _ => false
mutual
def chkS (c : Ck) (sc : Scope) : S → Stmt → Bool
  | .set p e, s => match s with
    | .Assign [tg] x _ => (!c.hot || p.isNm) && okHead tg && okHead x && chkPat c sc p tg && !e.isRd && chkE c sc e x && decide (swN sc tg x = some none) && (!isComp x || (match p, e, tg, x with
      | .nm _, .comp .., .Name .., .ListComp .. => true
      | .tup _, _, .Tuple .., .ListComp .. => true
      | _, _, _, _ => false))
    | _ => false
  | .par is es, s => !c.hot && (match parC c sc is s with
    | some xs => chkL c sc es xs
    | none => false)
  | .aug i p e, s => match s with
    | .AugAssign (.Name x _) op y _ => augOf p op && decide (c.N[i]? = some x) && stored sc x && !e.isRd && chkE c sc e y
    | _ => false
  | .stx i k e, s => match s with
    | .Assign [.Subscript o j _] x _ => chkNm c sc i o && okHead j && okHead x && !isComp x && !k.isRd && !e.isRd && chkE c sc k j && chkE c sc e x
    | _ => false
  | .augx i p k e, s => match s with
    | .AugAssign (.Subscript o j _) op x _ => augOf p op && chkNm c sc i o && okHead j && !k.isRd && !e.isRd && chkE c sc k j && chkE c sc e x
    | _ => false
  | .ex e, s => match s with
    | .Expr x _ => !isComp x && !e.isRd && chkE c sc e x
    | _ => false
  | .ret e, s => match s with
    | .Return (some x) _ => !e.isRd && chkE c sc e x
    | _ => false
  | .retN, s => match s with
    | .Return none _ => true
    | _ => false
  | .if_ t a b, s => match s with
    | .If x xs ys _ => chkT c sc t x && chkSs c sc a xs && chkSs c sc b ys
    | _ => false
  | .for_ pat it src body, s => match s with
    | .For tg iter xs [] _ => !c.hot && okHead tg && okHead iter && chkPat c sc pat tg && chkSs c sc body xs && (match shpIt sc tg it iter with
      | some ys => chkL c sc src ys
      | none => false)
    | _ => false
  | .whl _ t body, s => match s with
    | .While x xs [] _ => chkT c sc t x && chkSs c sc body xs
    | _ => false
  | .brk, s => match s with
    | .Break _ => true
    | _ => false
  | .cnt, s => match s with
    | .Continue _ => true
    | _ => false
  | .pass, s => match s with
    | .Pass _ => true
    | _ => false
  | .rai n, s => match s with
    | .Raise (some (.Call (.Name x _) [.Constant (.str _) _ _] [] _)) none _ => !c.hot && decide (c.cls[n]? = some x) && glb sc x && nodebug x
    | _ => false
  | .tryc body hd suites, s => match s with
    | .Try xs [h0] [] [] _ => !c.hot && chkSs c sc body xs && chkHs c sc suites hd [h0]
    | _ => false
  | .wipe _, _ => false
def chkSs (c : Ck) (sc : Scope) : List S → List Stmt → Bool
  | [], ts => ts.isEmpty
  | s :: ss, ts => match s.isWipe with
    | true => chkSs c sc ss ts
    | false => match ts with
      | t :: ts => chkS c sc s t && chkSs c sc ss ts
      | [] => false
def chkHs (c : Ck) (sc : Scope) : List (List S) → List (List Nat × Option Nat) → List ExceptHandler → Bool
  | [], [], [] => true
  | su :: sus, h :: hs, eh :: ehs => (match eh with
    | .ExceptHandler (some (.Name x _)) nm (t0 :: ts) _ => hdOk c sc h x nm && chkSs { c with hot := true } sc su (t0 :: ts)
    | _ => false) && chkHs c sc sus hs ehs
  | _, _, _ => false
end
end Mini

set_option Elab.async false
set_option linter.all false
set_option maxRecDepth 100000
/-! Mini: expressions. What the look has taken is run as the evaluator says. -/
namespace Mini
open PySem PySem.Spec PyProof.Rows L2

/-! ### forms -/
theorem starEach_ok {x : Expr} (h : okHead x = true) (xs : List Expr) (env : PySem.Env) : starEach (x :: xs) env = (false, eval x env) :: starEach xs env := by
  cases x <;> first | rfl | (cases h; done)
theorem noStar {pos : Pos} {env : PySem.Env} : ∀ {xs : List Expr}, (∀ x ∈ xs, okHead x = true) → (backTo pos (starEach xs env)).any (·.1) = false
  | [], _ => rfl
  | x :: xs, h => by
    rw [starEach_ok (h x List.mem_cons_self)]
    show (false || (backTo pos (starEach xs env)).any (·.1)) = false
    rw [noStar fun y hy => h y (List.mem_cons_of_mem _ hy)]; rfl
theorem noStar' {pos : Pos} {env : PySem.Env} : ∀ {xs : List Expr}, (∀ x ∈ xs, okHead x = true) → (backTo pos (starEach xs env)).all (fun x => !x.1) = true
  | [], _ => rfl
  | x :: xs, h => by
    rw [starEach_ok (h x List.mem_cons_self)]
    show (true && (backTo pos (starEach xs env)).all (fun x => !x.1)) = true
    rw [noStar' fun y hy => h y (List.mem_cons_of_mem _ hy)]; rfl
theorem few {pos : Pos} {env : PySem.Env} {x : Expr} (h : okHead x = true) : ((backTo pos (starEach [x] env)).all (fun x => !x.1) && (backToKw pos (keywordEach [] env)).all (fun x => x.1.isSome)
      && decide ([x].length + ([] : List Keyword).length + (if ([] : List Keyword).isEmpty then 0 else 1) < 30)) = true := by
  rw [noStar' (fun y hy => by
    have q : y = x := by simpa using hy
    subst q; exact h)]
  rfl
theorem recv_ok {o : Expr} (h : recv o = true) (n : Str) (env : PySem.Env) : attributeBase o n env (eval o env) = eval o env := by
  cases o <;> first | rfl | (cases h; done)
theorem plainIx_ok {x : Expr} (h : okHead x = true) : PlainIx x := by
  intro o i
  cases x <;> first | rfl | (cases h; done)
theorem mark_ok {x : Expr} (h : okHead x = true) (op : CmpOp) : behindInMarks op x = false := by
  cases x <;> first | rfl | (cases h; done)
theorem seen_vis {sc : Scope} {x : Str} (h : seen sc x = true) : Vis sc x := by
  unfold seen at h
  split at h
  · exact .inl (by assumption)
  · exact .inr (.inl (by assumption))
  · exact .inr (.inr (by assumption))
  · cases h
theorem stored_loc {sc : Scope} {x : Str} (h : stored sc x = true) : Loc sc x := by
  unfold stored at h
  split at h
  · exact .inl (by assumption)
  · exact .inr (by assumption)
  · cases h
theorem glb_gl {X : Cx} {sc : Scope} {x : Str} (hs : X.env.scope = sc) (h : glb sc x = true) : Gl X x := by
  unfold glb at h
  show X.env.scope.names.lookup x = some .globalImplicit
  rw [hs]
  split at h
  · assumption
  · cases h
theorem nodebug_ok {x : Str} (h : nodebug x = true) : (x == ("__debug__" : Str)) = false ∧ (x == ("__classdict__" : Str)) = false ∧ x ≠ "__name__" := by
  unfold nodebug at h
  simp only [Bool.and_eq_true, Bool.not_eq_true'] at h
  exact ⟨h.1.1, h.1.2, beq_eq_false_iff_ne.mp h.2⟩

/-! ### what a def's body stands in -/
/-- what a def of the table promises -/
structure CallExt (H : Hp) (F : Fz) (H' : Hp) (F' : Fz) (M : Addr → Prop) : Prop where
  kp : ∀ a o, H a = some o → ¬ M a → H' a = some o
  fz : ∀ a, F a → F' a
  fz' : ∀ a, F' a → F a ∨ H a = none
  tr : ∀ a, F' a → H' a ≠ none
inductive ArgsOk (K : PySem.W.Frag) (H : Hp) (F : Fz) (er : Option (Addr × Ex)) : List Mode → List V → List D → Prop
  | nil : ArgsOk K H F er [] [] []
  | val {v : V} {d : D} {ms vs ds} : Rep K H F v d → ArgsOk K H F er ms vs ds → ArgsOk K H F er (.val :: ms) (v :: vs) (d :: ds)
  | ro {a : Addr} {d : D} {ms vs ds} : TL K H F a d → ArgsOk K H F er ms vs ds → ArgsOk K H F er (.ro :: ms) (.ref a :: vs) (d :: ds)
  | st {a : Addr} {d : D} {ms vs ds} : StL K H F a d → ArgsOk K H F er ms vs ds → ArgsOk K H F er (.st :: ms) (.ref a :: vs) (d :: ds)
  | bor {a : Addr} {d : D} {ms vs ds} : TL K H F a d → ¬ F a → ArgsOk K H F er ms vs ds → ArgsOk K H F er (.bor :: ms) (.ref a :: vs) (d :: ds)
  | err {a : Addr} {x : Ex} {ms vs ds} : er = some (a, x) → ArgsOk K H F er ms vs ds → ArgsOk K H F er (.err :: ms) (.ref a :: vs) (.obj x.cls x.args :: ds)
/-- the addresses of the lent lists; of all lists that are lent -/
def borA : List Mode → List V → List Addr
  | .bor :: ms, .ref a :: vs => a :: borA ms vs
  | _ :: ms, _ :: vs => borA ms vs
  | _, _ => []
def lstA : List Mode → List V → List Addr
  | .bor :: ms, .ref a :: vs => a :: lstA ms vs
  | .ro :: ms, .ref a :: vs => a :: lstA ms vs
  | _ :: ms, _ :: vs => lstA ms vs
  | _, _ => []
/-- a list that is lent to be changed stands once -/
def sepA : List Mode → List V → Prop
  | .bor :: ms, .ref a :: vs => a ∉ lstA ms vs ∧ sepA ms vs
  | .ro :: ms, .ref a :: vs => a ∉ borA ms vs ∧ sepA ms vs
  | _ :: ms, _ :: vs => sepA ms vs
  | _, _ => True
inductive BackOk (K : PySem.W.Frag) (H : Hp) (F : Fz) : List Addr → List D → Prop
  | nil : BackOk K H F [] []
  | cons {a : Addr} {d : D} {as ds} : TL K H F a d → BackOk K H F as ds → BackOk K H F (a :: as) (d :: ds)
def FnPost (K : PySem.W.Frag) (cl : Cl) (H : Hp) (H' : Hp) (F' : Fz) (Q : VK) (E : XK) : FO → Prop
  | .val d => ∀ v, Rep K H' F' v d → Q v H'
  | .own d => ∀ a, H a = none → ¬ F' a → TL K H' F' a d → Q (.ref a) H'
  | .exc x => ∀ c dd, ExOk cl x c dd H' F' → E c dd H'
def spOf (K : PySem.W.Frag) (cl : Cl) (fn : Fn) (er : Option (Addr × Ex) := none) : Sp := fun vs H Q E => ∃ F ds r, (∀ a, F a → H a ≠ none) ∧ ArgsOk K H F er fn.modes vs ds ∧ sepA fn.modes vs ∧ fn.mf ds = some r ∧
  ∀ H' F', CallExt H F H' F' (· ∈ borA fn.modes vs) → BackOk K H' F' (borA fn.modes vs) r.back → FnPost K cl H H' F' Q E r.out
/-- a def's promise where nothing is being shown -/
structure FnG (P : Program) (w : World) (K : PySem.W.Frag) (mg : Str → Option Value) (base : Heap) (CX : CXT) (k : Nat) (f : Addr) (fd : FuncData) (ps : List Str) (sp : Sp) : Prop where
  len : ∀ vs H Q E, sp vs H Q E → vs.length = ps.length
  run : ∀ (A : Around) (outer : List PySem.Env) (s : Shared) (H : Hp) (args : Args) (us : List Value) (vs : List V) (Q : VK) (E : XK), A.guards = some [] → Room k A → Env0 P w K mg base A outer s H → BindsTo s fd args (ps.zip us) → Vals vs us → sp vs H Q E →
    codeAny (model P w) A (.call (.ref f) args) (CR CX outer P w H s Q E) s
/-- the exception x is handled, its object is p's -/
def HotI (cl : Cl) (A : Around) (p : Addr × Obj) (x : Ex) : Prop := L2H.Hot1 A p ∧ ∃ Dd : Addr, cl x.cls = some (.ref Dd) ∧ Zc (.ref Dd) none p.2
/-- a def's promise where an exception is handled -/
structure FnE (P : Program) (w : World) (K : PySem.W.Frag) (mg : Str → Option Value) (base : Heap) (CX : CXT) (cl : Cl) (k : Nat) (f : Addr) (fd : FuncData) (ps : List Str) (sp : Option (Addr × Ex) → Sp) : Prop where
  len : ∀ er vs H Q E, sp er vs H Q E → vs.length = ps.length
  run : ∀ (A : Around) (outer : List PySem.Env) (s : Shared) (H : Hp) (args : Args) (us : List Value) (vs : List V) (Q : VK) (E : XK) (p : Addr × Obj) (x : Ex), L2H.RoomH k A → HotI cl A p x → L2H.PinOk outer H s p →
    Env0 P w K mg base A outer s H → BindsTo s fd args (ps.zip us) → Vals vs us → sp (some (p.1, x)) vs H Q E → codeAny (model P w) A (.call (.ref f) args) (CR CX outer P w H s Q E) s
/-- the def x of the table, to be called -/
structure FnHas (X : Cx) (cl : Cl) (fn : Fn) (x : Str) (hot : Bool) : Prop where
  ex : hot = false → ∃ (k : Nat) (f : Addr) (fd : FuncData) (ps : List Str) (dvs : List V) (dus : List Value), Room k X.A ∧ X.mg x = some (.ref f) ∧ PySem.W.keepIn X.K (.ref f) = true ∧ Binds X.K fd ps dus ∧ Vals dvs dus ∧
    (∀ H F, RepL X.K H F dvs fn.dflt) ∧ FnG X.prog X.w X.K X.mg X.base (L2N.CX X.prog X.w) k f fd ps (spOf X.K cl fn)
  exH : hot = true → ∃ (k : Nat) (f : Addr) (fd : FuncData) (ps : List Str) (dvs : List V) (dus : List Value), L2H.RoomH k X.A ∧ X.mg x = some (.ref f) ∧ PySem.W.keepIn X.K (.ref f) = true ∧ Binds X.K fd ps dus ∧ Vals dvs dus ∧
    (∀ H F, RepL X.K H F dvs fn.dflt) ∧ FnE X.prog X.w X.K X.mg X.base (L2N.CX X.prog X.w) cl k f fd ps (fun er => spOf X.K cl fn er)
def bnames : List Str := ["len", "abs", "int", "str", "list", "sum", "any", "all", "range", "enumerate", "zip", "sorted", "max", "min", "tuple", "dict", "set", "repr", "isinstance", "bool", "ord"]
/-- names that may be stored -/
def StOk (X : Cx) (ss : Scope) : Prop := ∀ n, stored ss n = true → Loc X.env.scope n ∧ (X.fn n = true ∨ X.env.scope.names.lookup n = some .local)
structure XO (X : Cx) (W : WX) (c : Ck) (sc : Scope) (C : Bx) (cl : Cl) (Γ : List Fn) (G : List D) : Prop where
  K : X.K = C.K
  N : X.N = c.N
  nd : X.N.Nodup
  sc : X.env.scope = sc
  calm : c.hot = false → X.calm = true
  un : X.A.units + 64 < cLine
  gd : c.hot = false → X.A.guards = some []
  er0 : c.hot = false → C.er = none
  er : c.hot = true → ∃ a x oe, C.er = some (a, x) ∧ (a, oe) ∈ X.pn ∧ HotI cl X.A (a, oe) x
  tk : L2N.Takes X W
  ecl : ∀ (n : Nat) x, c.cls[n]? = some x → ∃ Cn : Addr, cl n = some (.ref Cn) ∧ X.mg x = some (.ref Cn)
  kit : ∀ (n m : Nat) vn vm, cl n = some vn → cl m = some vm → ∃ Cn Cm : Addr, vn = .ref Cn ∧ vm = .ref Cm ∧ L2.ExcC X.K Cn ∧ PySem.W.kitOne X.K (.ref Cn) (.ref Cm) = some (c.sub n m) ∧ PySem.W.exmOne X.K (.ref Cn) (.ref Cm) = some (c.sub n m)
  clb : ∀ (n : Nat) v, cl n = some v → n < c.cls.length
  nob : ∀ b ∈ bnames, X.mg b = none
  glob : ∀ (j : Nat) x d, c.gls[j]? = some x → G[j]? = some d → ∃ v u, X.mg x = some u ∧ RelV v u ∧ ∀ H F, Rep C.K H F v d
  fnl : ∀ (i : Nat) x, c.fns[i]? = some x → ∃ fn, Γ[i]? = some fn
  fn : ∀ (i : Nat) fn x, Γ[i]? = some fn → c.fns[i]? = some x → i < c.self → (c.hots.contains i = true ∨ c.hot = false) → FnHas X cl fn x (c.hots.contains i)

section
variable {X : Cx} {W : WX} {c : Ck} {sc : Scope} {C : Bx} {cl : Cl} {Γ : List Fn} {G : List D} {x : Expr}
theorem nm_inv {i : Nat} (h : chkNm c sc i x = true) : ∃ n pos, x = .Name n pos ∧ c.N[i]? = some n ∧ Vis sc n ∧ nodebug n = true := by
  cases x <;> first
    | (cases h; done)
    | (simp only [chkNm, Bool.and_eq_true, decide_eq_true_eq] at h
       exact ⟨_, _, rfl, h.1.1, seen_vis h.1.2, h.2⟩)
theorem pe_nm (o : XO X W c sc C cl Γ G) {i : Nat} (h : chkNm c sc i x = true) : PE X x (tVar i) := by
  obtain ⟨n, pos, rfl, h1, h2, h3⟩ := nm_inv h
  obtain ⟨d1, d2, _⟩ := nodebug_ok h3
  exact pe_var (by rw [o.N]; exact h1) (by rw [o.sc]; exact h2) d1 d2
/-- a slot is emptied, or its kind is changed without the value -/
theorem Rel.drop {e : Ev} {σ : L2.St} {H : Hp} {F : Fz} {i : Nat} (R : Rel C e σ H F) (nb : ∀ d, e.at i ≠ .bor d) : Rel C (e.set i .no) σ H F where
  len := by rw [List.length_set]; exact R.len
  fz := R.fz
  fz' := R.fz'
  tr := R.tr
  keep := R.keep
  lent := fun p hp => ⟨(R.lent p hp).1, by
    obtain ⟨d, hd⟩ := (R.lent p hp).2
    refine ⟨d, ?_⟩
    rw [Ev.at_set]
    split
    · rename_i q
      rw [← q.1] at hd; exact absurd hd (nb d)
    · exact hd⟩
  slot := fun j => by
    rw [Ev.at_set]
    split
    · trivial
    · exact R.slot j
  apart := fun j k a hjk hm hl => by
    rw [Ev.at_set] at hm hl
    split at hm
    · cases hm
    · split at hl
      · cases hl
      · exact R.apart j k a hjk hm hl
  pin := fun p hp => ⟨(R.pin p hp).1, (R.pin p hp).2.1, fun j hj => by
    rw [Ev.at_set] at hj
    split at hj
    · cases hj
    · exact (R.pin p hp).2.2 j hj⟩
theorem own_inv {e : Ev} {σ : L2.St} {H : Hp} {F : Fz} {i : Nat} {d : D} (R : Rel C e σ H F) (q : e.at i = .own d) : ∃ a, σ.getD i none = some (.ref a) ∧ TL C.K H F a d ∧ ¬ F a ∧ C.H0 a = none ∧
    (∀ j, (Ev.at (e.set i .no) j).listy = true → σ.getD j none ≠ some (.ref a)) ∧ ∀ p ∈ C.T, p.1 ≠ a := by
  have s := R.slot i
  rw [q] at s
  obtain ⟨a, e1, t, hf, h0⟩ := s
  refine ⟨a, e1, t, hf, h0, fun j hj z => ?_, fun p hp z => (R.pin p hp).2.2 i (by rw [q]; rfl) (by rw [z]; exact e1)⟩
  rw [Ev.at_set] at hj
  split at hj
  · cases hj
  · rename_i hn
    by_cases hij : i = j
    · subst hij
      exact hn ⟨rfl, Ev.at_lt (by rw [q]; simp)⟩
    · exact R.apart i j a hij (by rw [q]; rfl) hj e1 z
/-- a value is known of a slot -/
theorem Rel.known {e : Ev} {σ : L2.St} {H : Hp} {F : Fz} {i : Nat} {v : V} {d : D} (R : Rel C e σ H F) (nb : ∀ d, e.at i ≠ .bor d) (h : σ.getD i none = some v) (r : Rep C.K H F v d) : Rel C (e.set i (.val d)) σ H F where
  len := by rw [List.length_set]; exact R.len
  fz := R.fz
  fz' := R.fz'
  tr := R.tr
  keep := R.keep
  lent := fun p hp => ⟨(R.lent p hp).1, by
    obtain ⟨d, hd⟩ := (R.lent p hp).2
    refine ⟨d, ?_⟩
    rw [Ev.at_set]
    split
    · rename_i q
      rw [← q.1] at hd; exact absurd hd (nb d)
    · exact hd⟩
  slot := fun j => by
    rw [Ev.at_set]
    split
    · rename_i q
      rw [← q.1]
      exact ⟨v, h, r⟩
    · exact R.slot j
  apart := fun j k a hjk hm hl => by
    rw [Ev.at_set] at hm hl
    split at hm
    · cases hm
    · split at hl
      · cases hl
      · exact R.apart j k a hjk hm hl
  pin := fun p hp => ⟨(R.pin p hp).1, (R.pin p hp).2.1, fun j hj => by
    rw [Ev.at_set] at hj
    split at hj
    · cases hj
    · exact (R.pin p hp).2.2 j hj⟩
theorem set_set {e : Ev} {i : Nat} {a b : Sl} : (e.set i a).set i b = e.set i b := by simp
theorem snd_fz (o : XO X W c sc C cl Γ G) {i : Nat} (h : chkNm c sc i x = true) : PE X x (tE C cl W (evE Γ G (.fz i))) := by
  refine (pe_nm o h).imp fun σ H Q hq => ?_
  obtain ⟨e, F, R, p⟩ := hq
  simp only [evE] at p
  cases q : e.at i <;> rw [q] at p <;> first
    | exact False.elim p
    | skip
  rename_i d
  obtain ⟨a, e1, t, hf, h0, hs, hpn⟩ := own_inv R q
  have R1 := R.drop (i := i) fun d' z => by rw [q] at z; cases z
  obtain ⟨g, R2, r⟩ := R1.freeze t hf h0 hs hpn
  have R3 := R2.known (i := i) (fun d' z => by
    rw [Ev.at_set] at z
    split at z
    · cases z
    · rw [q] at z; cases z) e1 r
  rw [set_set] at R3
  exact ⟨.ref a, st_some e1, p H _ g R3 (.ref a) r⟩
theorem snd_v (o : XO X W c sc C cl Γ G) {i : Nat} (h : chkNm c sc i x = true) : PE X x (tE C cl W (evE Γ G (.v i))) := by
  refine ⟨fun pins s1 σ H Q I hq => ?_⟩
  obtain ⟨e, F, R, p⟩ := hq
  have s := R.slot i
  simp only [evE] at p
  cases q : e.at i <;> rw [q] at p s <;> first
    | exact False.elim p
    | skip
  · obtain ⟨v, e1, r⟩ := s
    exact (pe_nm o h).run pins s1 σ H Q I ⟨v, st_some e1, p H F (.refl _ _) R v r⟩
  · rename_i d
    refine (snd_fz o h).run pins s1 σ H Q I ⟨e, F, R, ?_⟩
    simp only [evE, q]
    exact p
theorem snd_mv (o : XO X W c sc C cl Γ G) {i : Nat} (h : chkNm c sc i x = true) : PE X x (tE C cl W (evE Γ G (.mv i))) := by
  refine (pe_nm o h).imp fun σ H Q hq => ?_
  obtain ⟨e, F, R, p⟩ := hq
  simp only [evE] at p
  have s := R.slot i
  cases q : e.at i <;> rw [q] at p s <;> first
    | exact False.elim p
    | skip
  · obtain ⟨v, e1, r⟩ := s
    exact ⟨v, st_some e1, p H F (.refl _ _) R v r⟩
  · rename_i d
    obtain ⟨a, e1, t, hf, h0, hs, hpn⟩ := own_inv R q
    exact ⟨.ref a, st_some e1, p H F (.refl _ _) (R.drop fun d' z => by rw [q] at z; cases z) (.ref a) ⟨a, rfl, t, hf, h0, hs, hpn⟩⟩
theorem snd_k {d : D} (h : chkK d x = true) : PE X x (tE C cl W (evE Γ G (.k d))) := by
  have go : ∀ {v : V}, PE X x (tC v) → (∀ H F, Rep C.K H F v d) → PE X x (tE C cl W (evE Γ G (.k d))) := fun {v} he r => he.imp fun σ H Q hq => by
    obtain ⟨e, F, R, p⟩ := hq
    simp only [evE] at p
    exact p H F (.refl _ _) R v (r H F)
  cases x with
  | Constant k j pos =>
    cases d <;> cases k <;> first
      | (cases h; done)
      | exact go pe_non fun _ _ => .non
      | (have e := of_decide_eq_true (show decide (_ = _) = true from by simpa [chkK] using h)
         subst e
         first
           | exact go pe_int fun _ _ => .int _
           | exact go pe_bl fun _ _ => .bl _)
      | (simp only [chkK, Bool.and_eq_true, decide_eq_true_eq, List.all_eq_true, beq_iff_eq] at h
         obtain ⟨⟨h1, h2⟩, h3⟩ := h
         rename_i s y
         have e : y = sOf s := by rw [← h1]; rfl
         subst e
         exact go pe_str fun _ _ => .str s ⟨h2, h3⟩)
  | _ => cases d <;> cases h
theorem snd_g (o : XO X W c sc C cl Γ G) {j : Nat} (h : chkE c sc (.g j) x = true) : PE X x (tE C cl W (evE Γ G (.g j))) := by
  simp only [chkE] at h
  split at h
  · rename_i y pos
    simp only [Bool.and_eq_true, decide_eq_true_eq] at h
    obtain ⟨⟨h1, h2⟩, h3⟩ := h
    cases hg : G[j]? with
    | none =>
      refine ⟨fun pins s σ H Q I hq => ?_⟩
      obtain ⟨e, F, R, p⟩ := hq
      simp only [evE, hg] at p
      exact False.elim p
    | some d =>
      obtain ⟨v, u, m, r, rep⟩ := o.glob j y d h1 hg
      refine (pe_glob (glb_gl o.sc h2) m r (nodebug_ok h3).1).imp fun σ H Q hq => ?_
      obtain ⟨e, F, R, p⟩ := hq
      simp only [evE, hg] at p
      exact p H F (.refl _ _) R v (rep H F)
  · cases h
/-- as a value -/
theorem tE_val {r : Ev → Res Out} {σ : L2.St} {H : Hp} {Q : VK} (h : tD C cl W (fun e => toV (r e)) σ H Q) : tE C cl W r σ H Q := by
  obtain ⟨e, F, R, p⟩ := h
  refine ⟨e, F, R, Post.mono (Post.toV p) fun o e' H' F' g R' k v ov => ?_⟩
  obtain ⟨F2, g2, R2, r2, q⟩ := k v ov
  exact q v r2
theorem snd_val {r : Ev → Res Out} (h : PE X x (tE C cl W r)) : PE X x (tD C cl W (fun e => toV (r e))) := h.imp fun σ H Q q => tE_val q
/-- as an operand -/
theorem snd_P (o : XO X W c sc C cl Γ G) {ie : E} (h : ie.isRd = false → PE X x (tE C cl W (evE Γ G ie))) (hn : chkE c sc ie x = true) : PE X x (tP C cl W (evP Γ G ie)) := by
  have go : ∀ (r : Ev → Res Out), PE X x (tE C cl W r) → PE X x (tP C cl W (fun e => (toV (r e)).bind fun d e1 => .ok (.dv d) e1)) := fun r hr => (snd_val hr).imp fun σ H Q hq => by
    obtain ⟨e, F, R, p⟩ := hq
    refine ⟨e, F, R, Post.mono (Post.bind p) fun d e' H' F' g R' k v rv => ?_⟩
    exact k H' F' (.refl _ _) R' v rv
  cases ie with
  | rd i =>
    have hn' : chkNm c sc i x = true := by simpa only [chkE] using hn
    refine (pe_nm o hn').imp fun σ H Q hq => ?_
    obtain ⟨e, F, R, p⟩ := hq
    have p : Post C cl W σ H F (rdOp i e) _ := p
    have s := R.slot i
    unfold rdOp at p
    cases q : e.at i <;> rw [q] at p s <;> first
      | exact False.elim p
      | (obtain ⟨v, e1, r⟩ := s
         exact ⟨v, st_some e1, p H F (.refl _ _) R v r⟩)
      | (obtain ⟨a, e1, _⟩ := s
         exact ⟨_, st_some e1, p H F (.refl _ _) R _ e1⟩)
  | _ => exact go _ (h rfl)
end
end Mini

set_option Elab.async false
set_option linter.all false
set_option maxRecDepth 100000
/-! Mini: the forms of primitives. -/
namespace Mini
open PySem PySem.Spec PyProof.Rows L2

/-- readings of operands with another end: those that the evaluator gives may be weakened -/
structure Mono (t : TE) : Prop where
  m : ∀ (σ : L2.St) (H : Hp) (Q Q' : VK), (∀ v H', Q v H' → Q' v H') → t σ H Q → t σ H Q'
theorem tP_mono {C : Bx} {cl : Cl} {W : WX} {r : Ev → Res Opd} : Mono (tP C cl W r) := ⟨fun σ H Q Q' h q => by
  obtain ⟨e, F, R, p⟩ := q
  exact ⟨e, F, R, p.mono fun a e H' F' _ _ k v hv => h v H' (k v hv)⟩⟩
theorem tE_mono {C : Bx} {cl : Cl} {W : WX} {r : Ev → Res Out} : Mono (tE C cl W r) := ⟨fun σ H Q Q' h q => by
  obtain ⟨e, F, R, p⟩ := q
  exact ⟨e, F, R, p.mono fun a e H' F' _ _ k v hv => h v H' (k v hv)⟩⟩
inductive PEs (X : Cx) : List Expr → List TE → Prop
  | nil : PEs X [] []
  | cons {x : Expr} {xs : List Expr} {t : TE} {ts : List TE} : okHead x = true → Mono t → PE X x t → PEs X xs ts → PEs X (x :: xs) (t :: ts)
section
variable {X : Cx}
theorem PEs.ok : ∀ {xs : List Expr} {ts : List TE}, PEs X xs ts → ∀ x ∈ xs, okHead x = true
  | _, _, .nil => fun _ h => by cases h
  | _, _, .cons a _ _ t => fun x h => by
    rcases List.mem_cons.mp h with rfl | h
    · exact a
    · exact PEs.ok t x h
theorem PEs.pa : ∀ {xs : List Expr} {ts : List TE}, PEs X xs ts → PA X xs (seqT ts)
  | _, _, .nil => pa_nil
  | _, _, .cons a _ p t => pa_cons p (PEs.pa t) (starEach_ok a _ _)
theorem PEs.mono : ∀ {xs : List Expr} {ts : List TE}, PEs X xs ts → ∀ (σ : L2.St) (H : Hp) {Q Q' : List V → Hp → Prop}, (∀ vs H', Q vs H' → Q' vs H') → seqT ts σ H Q → seqT ts σ H Q'
  | _, _, .nil => fun σ H Q Q' h q => h _ _ q
  | _, _, .cons _ m _ t => fun σ H Q Q' h q => m.m σ H _ _ (fun v H1 q1 => PEs.mono t σ H1 (fun vs H2 => h (v :: vs) H2) q1) q
theorem PEs.inv1 {a : Expr} {ts : List TE} (h : PEs X [a] ts) : ∃ t, ts = [t] ∧ okHead a = true ∧ PE X a t := by
  cases h with | cons o m p r => cases r; exact ⟨_, rfl, o, p⟩
theorem PEs.inv2 {a b : Expr} {ts : List TE} (h : PEs X [a, b] ts) : ∃ t u, ts = [t, u] ∧ okHead a = true ∧ okHead b = true ∧ PE X a t ∧ PE X b u := by
  cases h with | cons o m p r => cases r with | cons o2 m2 p2 r2 => cases r2; exact ⟨_, _, rfl, o, o2, p, p2⟩
theorem PEs.inv3 {a b d : Expr} {ts : List TE} (h : PEs X [a, b, d] ts) : ∃ t u w, ts = [t, u, w] ∧ okHead a = true ∧ okHead b = true ∧ okHead d = true ∧ PE X a t ∧ PE X b u ∧ PE X d w := by
  cases h with | cons o m p r => cases r with | cons o2 m2 p2 r2 => cases r2 with | cons o3 m3 p3 r3 => cases r3; exact ⟨_, _, _, rfl, o, o2, o3, p, p2, p3⟩
/-- the reading of a primitive's operands -/
def tPR (K : PySem.W.Frag) (p : Pr) (ts : List TE) : TE := fun σ H Q => seqT ts σ H (fun vs H1 => PR K p vs H1 Q)

/-! ### built-in functions by values -/
theorem PR.inv1 {K : PySem.W.Frag} {p : Pr} {vs : List V} {H : Hp} {Q : VK} (h : PR K p vs H Q) : ∃ F ds o, RVs K H F p.need vs ds ∧ (∀ a, F a → H a ≠ none) ∧ prim p ds = some o ∧ ∀ H' F' v, Ext H F H' F' (fun _ => False) → NewOk K H H' F' v o → Q v H' := h
/-- a built-in function of one value, by its cases -/
theorem callB_of {f : Value} {p : Pr} (h : ∀ (pins : List (Addr × Obj)) (s : Shared) (σ : L2.St) (H : Hp) (v : V) (us : List Value) (Q : VK) (F : Fz) (d : D) (o : Out), Inv X pins σ H s → Vals [v] us → RV X.K H F p.need v d → (∀ a, F a → H a ≠ none) → prim p [d] = some o →
    (∀ H' F' v, Ext H F H' F' (fun _ => False) → NewOk X.K H H' F' v o → Q v H') → wpAny (model X.prog X.w) X.A (call f us) (EP X pins σ Q) X.xe s) : CallR X f (fun vs H Q => ∃ v, vs = [v] ∧ PR X.K p vs H Q) := by
  intro pins s σ H vs us Q I r hq
  obtain ⟨v, rfl, hq⟩ := hq
  obtain ⟨F, a, o, ra, t, e, q⟩ := P1.inv hq
  exact h pins s σ H v us Q F a o I r ra t e q
theorem cb_len : CallR X (.builtin "len") (fun vs H Q => ∃ v, vs = [v] ∧ PR X.K .len vs H Q) := callB_of fun pins s σ H v us Q F d o I r ra t e q => by
  cases d <;> simp [prim] at e
  case str z =>
    subst e
    obtain ⟨e1, s1⟩ := ra.str
    refine call_len_str pins s σ H [v] us Q I r ⟨sOf z, by rw [e1], by rw [sOf_length, ← SZ_eq]; exact s1.1, ?_⟩
    rw [sOf_length]; exact q_sc t q (.int _)
  case lst ds =>
    subst e
    obtain ⟨a, xs, e1, h1, r1⟩ := ra.lst
    refine call_len_seq pins s σ H [v] us Q I r ⟨a, xs, by rw [e1], .inl h1, ?_⟩
    rw [r1.length]; exact q_sc t q (.int _)
  case tup ds =>
    subst e
    obtain ⟨a, xs, e1, h1, r1⟩ := ra.tup
    refine call_len_seq pins s σ H [v] us Q I r ⟨a, xs, by rw [e1], .inr h1, ?_⟩
    rw [r1.length]; exact q_sc t q (.int _)
theorem cb_abs : CallR X (.builtin "abs") (fun vs H Q => ∃ v, vs = [v] ∧ PR X.K .abs vs H Q) := callB_of fun pins s σ H v us Q F d o I r ra t e q => by
  cases d <;> simp [prim] at e
  case int i =>
    subst e
    exact call_abs pins s σ H [v] us Q I r ⟨i, by rw [ra.int], q_sc t q (.int _)⟩
theorem digs_inv {s : List Nat} (h : digsOk s = true) : PySem.intText? (sOf s) = some (digVal s : Int) ∧ (sOf s).length ≤ 640 := by
  unfold digsOk at h
  simp only [Bool.and_eq_true, Bool.not_eq_true', decide_eq_true_eq, List.all_eq_true] at h
  obtain ⟨⟨h1, h2⟩, h3⟩ := h
  have hl : (sOf s).length ≤ 640 := by rw [sOf_length]; exact h2
  refine ⟨?_, hl⟩
  have := PySem.intText_digits (x := sOf s) (fun c hc => h3 c hc) (fun z => by
    have z' : s = [] := z
    subst z'; cases h1) (Nat.le_trans hl (by decide))
  exact this
theorem cb_int : CallR X (.type "int") (fun vs H Q => ∃ v, vs = [v] ∧ PR X.K .int vs H Q) := callB_of fun pins s σ H v us Q F d o I r ra t e q => by
  cases d <;> simp [prim] at e
  case int i =>
    subst e
    exact call_int1 pins s σ H [v] us Q I r (.inl ⟨i, by rw [ra.int], q_sc t q (.int _)⟩)
  case bl i =>
    subst e
    exact call_int1 pins s σ H [v] us Q I r (.inr ⟨i, by rw [ra.bl], q_sc t q (.int _)⟩)
  case str z =>
    obtain ⟨h1, rfl⟩ := e
    obtain ⟨h2, h3⟩ := digs_inv h1
    exact call_int_str pins s σ H [v] us Q I r ⟨sOf z, _, by rw [ra.str.1], h2, h3, q_sc t q (.int _)⟩
theorem cb_ord : CallR X (.builtin "ord") (fun vs H Q => ∃ v, vs = [v] ∧ PR X.K .ord vs H Q) := callB_of fun pins s σ H v us Q F d o I r ra t e q => by
  cases d <;> simp [prim] at e
  rename_i w
  match w, e, ra with
  | [c], e, ra =>
    simp [prim] at e
    subst e
    exact call_ord pins s σ H [v] us Q I r ⟨sOf [c], by rw [ra.str.1], rfl, q_sc t q (.int _)⟩
  | [], e, _ => simp [prim] at e
  | _ :: _ :: _, e, _ => simp [prim] at e
theorem shows_ok : ∀ (n : Nat), (∀ d : D, plain n d = true → shows d = true → (toPy d).showable = true ∧ (toPy d).hasDict = false) ∧ (∀ d : List D, plainL n d = true → showsL d = true → PyData.showableAll (toPyL d) = true ∧ PyData.hasDictAll (toPyL d) = false) := by
  intro n
  induction n with
  | zero =>
    have h1 : ∀ d : D, plain 0 d = true → shows d = true → (toPy d).showable = true ∧ (toPy d).hasDict = false := by
      intro d hp hs
      cases d <;> first
        | (simp [plain] at hp; done)
        | (simp [toPy, PyData.showable, PyData.hasDict]; done)
        | (simp only [shows] at hs; exact ⟨by simp only [toPy, PyData.showable]; exact hs, by simp only [toPy, PyData.hasDict]⟩)
    refine ⟨h1, fun d => ?_⟩
    induction d with
    | nil => intro _ _; exact ⟨by simp only [toPyL, PyData.showableAll], by simp only [toPyL, PyData.hasDictAll]⟩
    | cons x xs ih =>
      intro hp hs
      simp only [plainL, showsL, Bool.and_eq_true] at hp hs
      have a := h1 x hp.1 hs.1
      have b := ih hp.2 hs.2
      exact ⟨by simp only [toPyL, PyData.showableAll, a.1, b.1, Bool.and_self], by simp only [toPyL, PyData.hasDictAll, a.2, b.2, Bool.or_self]⟩
  | succ n ih =>
    have h1 : ∀ d : D, plain (n + 1) d = true → shows d = true → (toPy d).showable = true ∧ (toPy d).hasDict = false := by
      intro d hp hs
      cases d <;> first
        | (simp [plain] at hp; done)
        | (simp [toPy, PyData.showable, PyData.hasDict]; done)
        | (simp only [shows] at hs; exact ⟨by simp only [toPy, PyData.showable]; exact hs, by simp only [toPy, PyData.hasDict]⟩)
        | (simp only [plain, shows] at hp hs
           have a := ih.2 _ hp hs
           exact ⟨by simp only [toPy, PyData.showable]; exact a.1, by simp only [toPy, PyData.hasDict]; exact a.2⟩)
    refine ⟨h1, fun d => ?_⟩
    induction d with
    | nil => intro _ _; exact ⟨by simp only [toPyL, PyData.showableAll], by simp only [toPyL, PyData.hasDictAll]⟩
    | cons x xs ih =>
      intro hp hs
      simp only [plainL, showsL, Bool.and_eq_true] at hp hs
      have a := h1 x hp.1 hs.1
      have b := ih hp.2 hs.2
      exact ⟨by simp only [toPyL, PyData.showableAll, a.1, b.1, Bool.and_self], by simp only [toPyL, PyData.hasDictAll, a.2, b.2, Bool.or_self]⟩
theorem rsz_ok : ∀ (n : Nat), (∀ d : D, plain n d = true → shows d = true → PyData.canLay0 (toPy d) = true → (toPy d).shown.length ≤ rsz d) ∧
    (∀ d : List D, plainL n d = true → showsL d = true → PyData.canLayAll0 (toPyL d) = true → ((PyData.shownAll (toPyL d)).map (·.length)).sum + 2 * (PyData.shownAll (toPyL d)).length ≤ rszL d) := by
  have all : ∀ n : Nat, (∀ d : D, plain n d = true → shows d = true → PyData.canLay0 (toPy d) = true → (toPy d).shown.length ≤ rsz d) →
    (∀ d : List D, plainL n d = true → showsL d = true → PyData.canLayAll0 (toPyL d) = true → ((PyData.shownAll (toPyL d)).map (·.length)).sum + 2 * (PyData.shownAll (toPyL d)).length ≤ rszL d) := by
    intro n h1 d
    induction d with
    | nil => intro _ _ _; simp [toPyL, PyData.shownAll, rszL]
    | cons x xs ih =>
      intro hp hs hc
      simp only [plainL, showsL, toPyL, PyData.canLayAll0, Bool.and_eq_true] at hp hs hc
      have a := h1 x hp.1 hs.1 hc.1
      have b := ih hp.2 hs.2 hc.2
      simp only [toPyL, PyData.shownAll, rszL, List.map_cons, List.sum_cons, List.length_cons]
      omega
  have base : ∀ (n : Nat) (d : D), (match d with | .lst _ => False | .tup _ => False | .dct _ => False | .obj _ _ => False | _ => True) → shows d = true → PyData.canLay0 (toPy d) = true → (toPy d).shown.length ≤ rsz d := by
    intro n d hd hs hc
    cases d <;> first
      | exact hd.elim
      | skip
    · have : ((toPy .non).shown).length = 4 := by simp only [toPy, PyData.shown]; rfl
      simp only [rsz]; omega
    · rename_i b
      simp only [toPy, PyData.shown, rsz]
      cases b <;> decide
    · simp only [shows, decide_eq_true_eq] at hs
      simp only [toPy, PyData.shown, rsz]
      exact PyProof.Rows.int_text_len_1921 hs
    · rename_i z
      simp only [toPy, PyData.shown, rsz]
      have hx : ∀ c ∈ (sOf z).cps.toList, c < 16 ^ 8 := fun c hm => by
        have h2 : PyData.strOk (sOf z) = true := by
          simpa only [toPy, PyData.canLay0] using hc
        unfold PyData.strOk at h2
        rw [← Array.all_toList, List.all_eq_true] at h2
        have h3 := of_decide_eq_true (h2 c hm)
        have h4 : (16 : Nat) ^ 8 = 4294967296 := by rfl
        rw [h4]
        omega
      have := PySem.StrLaws.reprText_len (sOf z) hx
      rw [sOf_length] at this
      exact this
  intro n
  induction n with
  | zero =>
    have h1 : ∀ d : D, plain 0 d = true → shows d = true → PyData.canLay0 (toPy d) = true → (toPy d).shown.length ≤ rsz d := by
      intro d hp hs hc
      cases d <;> first
        | (simp [plain] at hp; done)
        | exact base 0 _ trivial hs hc
    exact ⟨h1, all 0 h1⟩
  | succ n ih =>
    have h1 : ∀ d : D, plain (n + 1) d = true → shows d = true → PyData.canLay0 (toPy d) = true → (toPy d).shown.length ≤ rsz d := by
      intro d hp hs hc
      cases d <;> first
        | (simp [plain] at hp; done)
        | exact base 0 _ trivial hs hc
        | skip
      case lst xs =>
        simp only [plain, shows, toPy, PyData.canLay0] at hp hs hc
        have a := ih.2 _ hp hs hc
        have b := PySem.listText_len_le (PyData.shownAll (toPyL xs))
        simp only [toPy, PyData.shown, rsz]
        omega
      case tup xs =>
        simp only [plain, shows, toPy, PyData.canLay0] at hp hs hc
        have a := ih.2 _ hp hs hc
        have b := PySem.tupleText_len_le (PyData.shownAll (toPyL xs))
        simp only [toPy, PyData.shown, rsz]
        omega
    exact ⟨h1, all (n + 1) h1⟩
theorem strI_str (i : Int) : (toString i : Str) = sOf (strI i) := by
  show Str.ofString (toString i) = _
  unfold Str.ofString sOf strI
  rw [cpsOfBytes_string]
theorem strI_ok {i : Int} (h : (strI i).length ≤ SZ) : StrOk (strI i) := ⟨h, fun c hc => by
  unfold strI at hc
  obtain ⟨k, _, rfl⟩ := List.mem_map.mp hc
  have := k.valid
  simp only [UInt32.isValidChar, Nat.isValidChar] at this
  show k.val.toNat < _
  omega⟩
theorem strI_str' (i : Int) : Str.ofString (toString i) = sOf (strI i) := strI_str i
/-! the signs of a repr -/
def SgOk (x : Str) : Prop := ∀ c ∈ x.cps.toList, c < 0x110000
theorem SgOk.append {a b : Str} (h1 : SgOk a) (h2 : SgOk b) : SgOk (a ++ b) := fun c hc => by
  have e : (a ++ b).cps.toList = a.cps.toList ++ b.cps.toList := by
    show (a.cps ++ b.cps).toList = _
    rw [Array.toList_append]
  rw [e] at hc
  exact (List.mem_append.mp hc).elim (h1 c) (h2 c)
theorem SgOk.join {a : Str} (h : SgOk a) : ∀ {l : List Str}, (∀ x ∈ l, SgOk x) → SgOk (Str.join a l)
  | [], _ => fun c hc => by cases (show c ∈ ([] : List Nat) from hc)
  | [x], hl => hl x List.mem_cons_self
  | x :: y :: r, hl => by
    show SgOk (x ++ a ++ Str.join a (y :: r))
    exact ((hl x List.mem_cons_self).append h).append (SgOk.join h fun z hz => hl z (List.mem_cons_of_mem _ hz))
theorem char_lt (k : Char) : k.toNat < 0x110000 := by
  have := k.valid
  simp only [UInt32.isValidChar, Nat.isValidChar] at this
  show k.val.toNat < _
  omega
theorem reprChar_sg {q c : Nat} (hq : q < 0x110000) (hc : c < 0x110000) : ∀ d ∈ Builtin.Str.reprChar q c, d < 0x110000 := by
  have hx : ∀ n, ∀ d ∈ (List.replicate n 48 ++ (Nat.toDigits 16 c).map Char.toNat), d < 0x110000 := fun n d hd => by
    rcases List.mem_append.mp hd with h | h
    · rw [List.eq_of_mem_replicate h]; decide
    · obtain ⟨k, _, rfl⟩ := List.mem_map.mp h
      exact char_lt k
  intro d hd
  unfold Builtin.Str.reprChar at hd
  dsimp only at hd
  repeat' split at hd
  all_goals first
    | (simp only [List.mem_cons, List.not_mem_nil, or_false] at hd; omega)
    | (rcases List.mem_append.mp hd with h | h
       · simp only [List.mem_cons, List.not_mem_nil, or_false] at h; omega
       · exact hx _ d h)
theorem foldl_sg {q : Nat} (hq : q < 0x110000) : ∀ (l : List Nat) (acc : Array Nat), (∀ c ∈ l, c < 0x110000) → (∀ c ∈ acc.toList, c < 0x110000) → ∀ c ∈ (l.foldl (fun out c => out ++ (Builtin.Str.reprChar q c).toArray) acc).toList, c < 0x110000
  | [], _, _, ha => ha
  | x :: r, acc, hl, ha => by
    rw [List.foldl_cons]
    refine foldl_sg hq r _ (fun c hc => hl c (List.mem_cons_of_mem _ hc)) fun c hc => ?_
    rw [Array.toList_append] at hc
    exact (List.mem_append.mp hc).elim (ha c) (reprChar_sg hq (hl x List.mem_cons_self) c)
theorem reprText_sg {x : Str} (h : SgOk x) : SgOk (reprText x) := by
  have hq : reprQuote x < 0x110000 := by
    unfold reprQuote
    split <;> decide
  intro c hc
  unfold reprText at hc
  simp only [Array.toList_push, ← Array.foldl_toList] at hc
  rcases List.mem_append.mp hc with hc | hc
  · refine foldl_sg hq _ _ h (fun c hc => ?_) c hc
    have : c = reprQuote x := by simpa using hc
    rw [this]; exact hq
  · have : c = reprQuote x := by simpa using hc
    rw [this]; exact hq
theorem shown_sg : ∀ (n : Nat), (∀ d : D, plain n d = true → PyData.canLay0 (toPy d) = true → SgOk (toPy d).shown) ∧ (∀ d : List D, plainL n d = true → PyData.canLayAll0 (toPyL d) = true → ∀ x ∈ PyData.shownAll (toPyL d), SgOk x) := by
  have all : ∀ n : Nat, (∀ d : D, plain n d = true → PyData.canLay0 (toPy d) = true → SgOk (toPy d).shown) → (∀ d : List D, plainL n d = true → PyData.canLayAll0 (toPyL d) = true → ∀ x ∈ PyData.shownAll (toPyL d), SgOk x) := by
    intro n h1 d
    induction d with
    | nil => intro _ _ x hx; simp only [toPyL, PyData.shownAll] at hx; cases hx
    | cons y ys ih =>
      intro hp hc x hx
      simp only [plainL, toPyL, PyData.canLayAll0, Bool.and_eq_true] at hp hc
      simp only [toPyL, PyData.shownAll] at hx
      rcases List.mem_cons.mp hx with rfl | hx
      · exact h1 y hp.1 hc.1
      · exact ih hp.2 hc.2 x hx
  have base : ∀ (d : D), (match d with | .lst _ => False | .tup _ => False | .dct _ => False | .obj _ _ => False | _ => True) → PyData.canLay0 (toPy d) = true → SgOk (toPy d).shown := by
    intro d hd hc
    cases d <;> first
      | exact hd.elim
      | skip
    · simp only [toPy, PyData.shown]
      show ∀ c ∈ _, _
      decide
    · rename_i b
      simp only [toPy, PyData.shown]
      cases b <;> (show ∀ c ∈ _, _) <;> decide
    · rename_i i
      simp only [toPy, PyData.shown]
      rw [strI_str']
      intro c hc
      have hc : c ∈ strI i := hc
      unfold strI at hc
      obtain ⟨k, _, rfl⟩ := List.mem_map.mp hc
      exact char_lt k
    · rename_i z
      simp only [toPy, PyData.shown]
      refine reprText_sg fun c hm => ?_
      have h2 : PyData.strOk (sOf z) = true := by
        simpa only [toPy, PyData.canLay0] using hc
      unfold PyData.strOk at h2
      rw [← Array.all_toList, List.all_eq_true] at h2
      exact of_decide_eq_true (h2 c hm)
  intro n
  induction n with
  | zero =>
    have h1 : ∀ d : D, plain 0 d = true → PyData.canLay0 (toPy d) = true → SgOk (toPy d).shown := by
      intro d hp hc
      cases d <;> first
        | (simp [plain] at hp; done)
        | exact base _ trivial hc
    exact ⟨h1, all 0 h1⟩
  | succ n ih =>
    have h1 : ∀ d : D, plain (n + 1) d = true → PyData.canLay0 (toPy d) = true → SgOk (toPy d).shown := by
      intro d hp hc
      cases d <;> first
        | (simp [plain] at hp; done)
        | exact base _ trivial hc
        | skip
      case lst xs =>
        simp only [plain, toPy, PyData.canLay0] at hp hc
        simp only [toPy, PyData.shown]
        rw [PySem.listText_eq_join]
        refine (SgOk.append ?_ (SgOk.join ?_ (ih.2 _ hp hc))).append ?_ <;> (show ∀ c ∈ _, _) <;> decide
      case tup xs =>
        simp only [plain, toPy, PyData.canLay0] at hp hc
        simp only [toPy, PyData.shown]
        unfold PySem.tupleText
        refine (SgOk.append ?_ (SgOk.join ?_ (ih.2 _ hp hc))).append ?_
        · show ∀ c ∈ _, _
          decide
        · show ∀ c ∈ _, _
          decide
        · split <;> (show ∀ c ∈ _, _) <;> decide
    exact ⟨h1, all (n + 1) h1⟩
theorem cb_list : CallR X (.type "list") (fun vs H Q => ∃ v, vs = [v] ∧ PR X.K .list vs H Q) := callB_of fun pins s σ H v us Q F d o I r ra t e q => by
  cases d <;> simp [prim] at e
  case lst ds =>
    subst e
    obtain ⟨a, xs, e1, h1, r1⟩ := ra.lst
    exact call_list_of pins s σ H [v] us Q I r ⟨a, xs, by rw [e1], .inl h1, fun p hp => q_ls t q r1 hp⟩
  case tup ds =>
    subst e
    obtain ⟨a, xs, e1, h1, r1⟩ := ra.tup
    exact call_list_of pins s σ H [v] us Q I r ⟨a, xs, by rw [e1], .inr h1, fun p hp => q_ls t q r1 hp⟩
theorem cb_sum (hc : X.calm = true) : CallR X (.builtin "sum") (fun vs H Q => ∃ v, vs = [v] ∧ PR X.K .sum vs H Q) := callB_of fun pins s σ H v us Q F d o I r ra t e q => by
  cases d <;> simp [prim] at e
  case lst ds =>
    obtain ⟨ns, e, rfl⟩ := e
    obtain ⟨a, xs, e1, h1, r1⟩ := ra.lst
    have e2 := r1.ints e
    subst e2
    exact cr_sum hc pins s σ H [v] us Q I r ⟨a, ns, by rw [e1], h1, q_sc t q (.int _)⟩
theorem cb_any (hc : X.calm = true) : CallR X (.builtin "any") (fun vs H Q => ∃ v, vs = [v] ∧ PR X.K .any vs H Q) := callB_of fun pins s σ H v us Q F d o I r ra t e q => by
  cases d <;> simp [prim] at e
  case lst ds =>
    obtain ⟨ns, e, rfl⟩ := e
    obtain ⟨a, xs, e1, h1, r1⟩ := ra.lst
    have e2 := r1.bls e
    subst e2
    exact cr_any hc pins s σ H [v] us Q I r ⟨a, ns, by rw [e1], h1, q_sc t q (by simpa using Rep.bl _)⟩
theorem cb_all (hc : X.calm = true) : CallR X (.builtin "all") (fun vs H Q => ∃ v, vs = [v] ∧ PR X.K .all vs H Q) := callB_of fun pins s σ H v us Q F d o I r ra t e q => by
  cases d <;> simp [prim] at e
  case lst ds =>
    obtain ⟨ns, e, rfl⟩ := e
    obtain ⟨a, xs, e1, h1, r1⟩ := ra.lst
    have e2 := r1.bls e
    subst e2
    exact cr_all hc pins s σ H [v] us Q I r ⟨a, ns, by rw [e1], h1, q_sc t q (by simpa using Rep.bl _)⟩
theorem cb_str : CallR X (.type "str") (fun vs H Q => ∃ v, vs = [v] ∧ PR X.K .str vs H Q) := callB_of fun pins s σ H v us Q F d o I r ra t e q => by
  cases d <;> simp [prim] at e
  case int i =>
    obtain ⟨e, rfl⟩ := e
    refine call_str_int pins s σ H [v] us Q I r ⟨i, by rw [ra.int], e, ?_⟩
    rw [strI_str]
    refine q_sc t q (.str _ (strI_ok ?_))
    have := PySem.int_text_fits e
    have e2 : Str.ofString (toString i) = sOf (strI i) := strI_str i
    rw [e2, sOf_length, ← SZ_eq] at this
    exact this
theorem cb_repr (hg : X.A.guards = some []) (hu : X.A.units + 64 < cLine) : CallR X (.builtin "repr") (fun vs H Q => ∃ v, vs = [v] ∧ PR X.K .repr vs H Q) := callB_of fun pins s σ H v us Q F d o I r ra t e q => by
  simp only [prim] at e
  split at e
  · rename_i hc
    cases e
    simp only [Bool.and_eq_true, decide_eq_true_eq] at hc
    obtain ⟨⟨h1, h2⟩, h3⟩ := hc
    obtain ⟨dp, lay⟩ := ra.dp
    have hl : (toPy d).shown.length ≤ sizeLine := by
      rw [← SZ_eq]; exact Nat.le_trans ((rsz_ok 60).1 d h2 h1 lay) h3
    obtain ⟨k1, k2⟩ := (shows_ok 60).1 d h2 h1
    have es : (toPy d).shown = sOf (reprD d) := by
      unfold reprD sOf
      rw [Array.toArray_toList]
    have ok : StrOk (reprD d) := ⟨by
      rw [← sOf_length, ← es, SZ_eq]; exact hl, (shown_sg 60).1 d h2 lay⟩
    have fin : ∀ {h' : Heap} {u : Tok} {tk : Nat}, (∀ b o, s.heap.get? b = some o → h'.get? b = some o) → EP X pins σ Q (.str (toPy d).shown u) { s with heap := h', toks := tk } := fun {h' u tk} k => by
      rw [es]
      exact ⟨.str _, H, I.kept k, ⟨u, rfl⟩, q_sc t q (.str _ ok)⟩
    obtain ⟨u, rfl, r1⟩ := vals1 r
    obtain ⟨as, rd⟩ := Dp.reads I _ _ _ dp r1
    have dep := (depth_toPy 60).1 d h2
    cases d with
    | non =>
      obtain rfl := ra.non
      cases r1
      exact PySem.P.repr_of_none (fin (u := s.toks) (fun _ _ h => h))
    | bl b =>
      obtain rfl := ra.bl
      cases r1
      exact PySem.P.repr_of_bool (by
        have := fin (h' := s.heap) (u := s.toks) (tk := s.toks + 1) (fun _ _ h => h)
        simp only [toPy, PyData.shown] at this
        exact this)
    | int i =>
      obtain rfl := ra.int
      obtain ⟨tk, rfl⟩ := r1
      exact PySem.P.repr_of_int (by simpa only [shows, decide_eq_true_eq] using h1) (by
        have := fin (h' := s.heap) (u := s.toks) (tk := s.toks + 1) (fun _ _ h => h)
        simp only [toPy, PyData.shown] at this
        exact this)
    | str z =>
      obtain ⟨rfl, _⟩ := ra.str
      obtain ⟨tk, rfl⟩ := r1
      exact PySem.P.repr_of_str (by
        have := fin (h' := s.heap) (u := s.toks) (tk := s.toks + 1) (fun _ _ h => h)
        simp only [toPy, PyData.shown] at this
        exact this) (by simpa only [toPy, PyData.shown] using hl)
    | lst xs =>
      obtain ⟨a, ys, rfl, _⟩ := ra.lst
      cases r1
      exact repr_of_reads' rd k1 (PyData.noDict_hsm k2) hg (by omega) (fun _ _ h => h) (fun h' u tk k => fin k) hl
    | tup xs =>
      obtain ⟨a, ys, rfl, _⟩ := ra.tup
      cases r1
      exact repr_of_reads' rd k1 (PyData.noDict_hsm k2) hg (by omega) (fun _ _ h => h) (fun h' u tk k => fin k) hl
    | dct _ => simp [plain] at h2
    | obj _ _ => simp [plain] at h2
  · cases e
/-! ### a call of a built-in function -/
variable {W : WX} {c : Ck} {sc : Scope} {C : Bx} {cl : Cl} {Γ : List Fn} {G : List D} {x : Expr}
theorem blt_inv {f y : Str} (h : blt sc f y = true) : f = y ∧ glb sc y = true := by
  unfold blt at h
  rw [Bool.and_eq_true, beq_iff_eq] at h
  exact h
theorem callB_form (o : XO X W c sc C cl Γ G) {f y : Str} {id : String} {p : Pr} {a : Expr} {ts : List TE} {p1 p2 : Pos} (hb : blt sc f y = true) (hv : bootBuiltins y = some (.builtin id)) (hy : y ∈ bnames) (hn : y ≠ "__name__") (hd : (y == ("__debug__" : Str)) = false)
    (hc : CallR X (.builtin id) (fun vs H Q => ∃ v, vs = [v] ∧ PR X.K p vs H Q)) (hp : PEs X [a] ts) : PE X (.Call (.Name f p1) [a] [] p2) (tPR X.K p ts) := by
  obtain ⟨rfl, hg⟩ := blt_inv hb
  obtain ⟨t, rfl, ha, pa⟩ := hp.inv1
  refine (pe_callB hc (glb_gl o.sc hg) (o.nob _ hy) hv (pa_cons pa pa_nil (starEach_ok ha _ _)) hn hd (starEach_ok ha _ _) rfl).imp fun σ H Q hq => ?_
  have hq' : t σ H (fun v H1 => PR X.K p [v] H1 Q) := hq
  have e : (fun (v : V) (H1 : Hp) => PR X.K p [v] H1 Q) = fun v H1 => ∃ w, [v] = [w] ∧ PR X.K p [v] H1 Q := by
    funext v H1
    exact propext ⟨fun h => ⟨v, rfl, h⟩, fun ⟨_, _, h⟩ => h⟩
  rw [e] at hq'
  exact hq'
theorem callT_form (o : XO X W c sc C cl Γ G) {f y : Str} {id : String} {p : Pr} {a : Expr} {ts : List TE} {p1 p2 : Pos} (hb : blt sc f y = true) (hv : bootBuiltins y = some (.type id)) (hy : y ∈ bnames) (hn : y ≠ "__name__") (hd : (y == ("__debug__" : Str)) = false)
    (hc : CallR X (.type id) (fun vs H Q => ∃ v, vs = [v] ∧ PR X.K p vs H Q)) (hp : PEs X [a] ts) : PE X (.Call (.Name f p1) [a] [] p2) (tPR X.K p ts) := by
  obtain ⟨rfl, hg⟩ := blt_inv hb
  obtain ⟨t, rfl, ha, pa⟩ := hp.inv1
  refine (pe_callTy hc (glb_gl o.sc hg) (o.nob _ hy) hv (pa_cons pa pa_nil (starEach_ok ha _ _)) hn hd (starEach_ok ha _ _) rfl).imp fun σ H Q hq => ?_
  have hq' : t σ H (fun v H1 => PR X.K p [v] H1 Q) := hq
  have e : (fun (v : V) (H1 : Hp) => PR X.K p [v] H1 Q) = fun v H1 => ∃ w, [v] = [w] ∧ PR X.K p [v] H1 Q := by
    funext v H1
    exact propext ⟨fun h => ⟨v, rfl, h⟩, fun ⟨_, _, h⟩ => h⟩
  rw [e] at hq'
  exact hq'
/-! ### a display, a slice, list.index -/
theorem tup_form {es : List Expr} {ts : List TE} {k : Nat} {pos : Pos} (hp : PEs X es ts) : PE X (.Tuple es k pos) (tPR X.K .tup ts) := by
  refine (pe_tup hp.pa).imp fun σ H Q hq => ?_
  refine hp.mono σ H (fun vs H1 h => ?_) hq
  obtain ⟨F, ds, o, r, t, e, q⟩ := h
  have r' := RVs.reps r
  simp only [prim] at e
  split at e
  · cases e
    rename_i hl
    exact ⟨by rw [r'.length, ← SZ_eq]; exact hl, fun p hp => q_tp t q r' hp⟩
  · cases e
theorem lst_form {es : List Expr} {ts : List TE} {pos : Pos} (hp : PEs X es ts) : PE X (.List es pos) (tPR X.K .lst ts) := by
  refine (pe_lst hp.pa).imp fun σ H Q hq => ?_
  refine hp.mono σ H (fun vs H1 h => ?_) hq
  obtain ⟨F, ds, o, r, t, e, q⟩ := h
  have r' := RVs.reps r
  simp only [prim] at e
  split at e
  · cases e
    rename_i hl
    exact ⟨by rw [r'.length, ← SZ_eq]; exact hl, fun p hp => q_ls t q r' hp⟩
  · cases e
/-! ### list.index -/
theorem findIdx_rep {K : PySem.W.Frag} {H : Hp} {F : Fz} {x : V} {d : D} {m : Nat} (k : RV K H F m x d) (g : Mini.flat d = true) {xs : List V} {ds : List D} (r : RepL K H F xs ds) (f : ds.all Mini.flat = true) {j : Nat} (h : ds.findIdx? (fun y => deq y d) = some j) :
    ∃ z, xs[j]? = some z ∧ L2.eqV z x = true ∧ ∀ (n : Nat) (z' : V), n < j → xs[n]? = some z' → L2.eqV z' x = false := by
  rw [List.findIdx?_eq_some_iff_getElem] at h
  obtain ⟨hj, h1, h2⟩ := h
  have at_ : ∀ (n : Nat) (v : V), xs[n]? = some v → ∃ e, ds[n]? = some e ∧ L2.eqV v x = deq e d := fun n v hv => by
    obtain ⟨e, he, re⟩ := r.get' hv
    exact ⟨e, he, (re.rv (n := 0)).eqV k (List.all_eq_true.mp f e (List.mem_of_getElem? he)) g⟩
  have hjx : j < xs.length := by rw [r.length]; exact hj
  refine ⟨xs[j], by simp [hjx], ?_, fun n z' hn hz => ?_⟩
  · obtain ⟨e, he, hq⟩ := at_ j xs[j] (by simp [hjx])
    rw [hq]
    have : e = ds[j] := by rw [List.getElem?_eq_getElem hj] at he; exact (Option.some.inj he).symm
    rw [this]; exact h1
  · obtain ⟨e, he, hq⟩ := at_ n z' hz
    rw [hq]
    have hn' : n < ds.length := Nat.lt_trans hn hj
    have : e = ds[n] := by rw [List.getElem?_eq_getElem hn'] at he; exact (Option.some.inj he).symm
    rw [this]
    simpa using h2 n hn
/-! ### slices -/
theorem cut_rep {K : PySem.W.Frag} {H : Hp} {F : Fz} {xs : List V} {ds : List D} (r : RepL K H F xs ds) (lo hi : Option Int) : RepL K H F (cutV xs lo hi) (cut ds lo hi) := by
  have e : cut ds lo hi = (ds.drop (HT.sIx ds.length 0 lo)).take (HT.sIx ds.length ds.length hi - HT.sIx ds.length 0 lo) := by
    cases lo <;> cases hi <;> rfl
  rw [e]
  unfold cutV
  rw [r.length]
  exact (r.drop _).take _
theorem sIx_eq (n d : Nat) (o : Option Int) : HT.sIx n d o = sIx n d o := by cases o <;> rfl
theorem cut_str (s : List Nat) (lo hi : Option Int) : cutS (sOf s) lo hi = sOf (cut s lo hi) := by
  unfold cutS sOf cut
  simp only [Str.length, ← sIx_eq]
  rfl
theorem cut_mem {α : Type} {s : List α} {lo hi : Option Int} {c : α} (h : c ∈ cut s lo hi) : c ∈ s := List.mem_of_mem_drop (List.mem_of_mem_take h)
theorem cut_len {α : Type} (s : List α) (lo hi : Option Int) : (cut s lo hi).length ≤ s.length := by
  unfold cut
  rw [List.length_take, List.length_drop]
  omega
/-- what a slice asks -/
def rSlP (K : PySem.W.Frag) : V → Option Int → Option Int → Hp → VK → Prop := fun x lo hi H Q => ∃ F d o, RV K H F 0 x d ∧ (∀ a, F a → H a ≠ none) ∧ slcF d lo hi = some o ∧ ∀ H' F' v, Ext H F H' F' (fun _ => False) → NewOk K H H' F' v o → Q v H'
theorem sl_P : SlR X (rSlP X.K) := by
  intro pins s σ H x v vl vu lo hi sl Q I rx hs pl pu h
  obtain ⟨F, d, o, r, t, e, q⟩ := h
  cases d <;> simp [slcF] at e
  case lst ds =>
    subst e
    obtain ⟨a, xs, e1, h1, r1⟩ := r.lst
    exact sl_list pins s σ H x v vl vu lo hi sl Q I rx hs pl pu ⟨a, xs, e1, h1, fun p hp => q_ls t q (cut_rep r1 lo hi) hp⟩
  case str z =>
    subst e
    obtain ⟨e1, s1⟩ := r.str
    refine C8.sl_txt pins s σ H x v vl vu lo hi sl Q I rx hs pl pu ⟨sOf z, e1, by rw [sOf_length, ← SZ_eq]; exact s1.1, ?_⟩
    rw [← C8.cutS_slice, cut_str]
    exact q_sc t q (.str _ ⟨Nat.le_trans (cut_len z lo hi) s1.1, fun c hc => s1.2 c (cut_mem hc)⟩)
  case tup ds =>
    obtain ⟨hn, rfl⟩ := e
    obtain ⟨a, xs, e1, h1, r1⟩ := r.tup
    refine sl_tup pins s σ H x v vl vu lo hi sl Q I rx hs pl pu ⟨a, xs, e1, h1, ?_, fun p hp => q_tp t q (cut_rep r1 lo hi) hp⟩
    rw [r1.length, sIx_eq, sIx_eq]
    exact fun z => hn z.1 z.2
end
end Mini

set_option Elab.async false
set_option linter.all false
set_option maxRecDepth 100000
/-! Mini: the forms of expressions. -/
namespace Mini
open PySem PySem.Spec PyProof.Rows L2
section
variable {X : Cx} {W : WX} {c : Ck} {sc : Scope} {C : Bx} {cl : Cl} {Γ : List Fn} {G : List D} {x : Expr}

theorem bin_form {op : Operator} {p : Pr} {a b : Expr} {pos : Pos} {ts : List TE} (ho : OpR X (binaryOp op) (P2 X.K p)) (hp : PEs X [a, b] ts) : PE X (.BinOp a op b pos) (tPR X.K p ts) := by
  obtain ⟨t, u, rfl, _, _, pa, pb⟩ := hp.inv2
  exact pe_op ho pa pb
theorem cmp_form {op : CmpOp} {p : Pr} {a b : Expr} {pos : Pos} {ts : List TE} (ho : OpR X (compareOp op) (P2 X.K p)) (hp : PEs X [a, b] ts) : PE X (.Compare a [op] [b] pos) (tPR X.K p ts) := by
  obtain ⟨t, u, rfl, _, hb, pa, pb⟩ := hp.inv2
  exact pe_cmpR ho pa pb (mark_ok hb _)
theorem cmp_formT {op : CmpOp} {p : Pr} {a b : Expr} {pos : Pos} {ts : List TE} (ho : OpR X (compareOp op) (P2 X.K p)) (hp : PEs X [a, b] ts) : PT X (.Compare a [op] [b] pos) (tTest (tPR X.K p ts)) := by
  obtain ⟨t, u, rfl, _, hb, pa, pb⟩ := hp.inv2
  exact pt_cmpR ho pa pb (mark_ok hb _)
/-! ### x in range(n) -/
theorem cr_range1 : CallR X (.type "range") (fun vs H Q => ∃ j, vs = [V.int j] ∧ ∀ p, H p = none → Q (.ref p) (upd H p (.rng 0 j))) := by
  intro pins s σ H vs us Q I r h
  obtain ⟨j, rfl, q⟩ := h
  obtain ⟨u, rfl, ru⟩ := r.one
  obtain ⟨t, rfl⟩ := ru
  refine call_range_1 ⟨.ref s.heap.objs.size, upd H s.heap.objs.size (.rng 0 j), I.laid (t' := s.toks + 1 + 1) (fun b o e => Heap.get?_push_of_some _ e) (Nat.le_refl _) ?_, rfl, q _ (I.hok.fresh (Nat.le_refl _))⟩
  exact ⟨s.toks, t, s.toks + 1, Heap.get?_push_size _ rfl⟩
theorem inR_imp {t u : TE} {σ : L2.St} {H : Hp} {Q : VK} (m : Mono t) (m' : Mono u) (h : tPR X.K .inR [t, u] σ H Q) :
    tOp (fun x y H Q => ∃ i a lo hi, x = V.int i ∧ y = V.ref a ∧ H a = some (.rng lo hi) ∧ Q (.bl (decide (lo ≤ i ∧ i < hi))) H) t (tCB (fun vs H Q => ∃ j, vs = [V.int j] ∧ ∀ p, H p = none → Q (.ref p) (upd H p (.rng 0 j))) (tCons u tNil)) σ H Q := by
  refine m.m σ H _ _ (fun v H1 k => ?_) h
  refine m'.m σ H1 _ _ (fun w H2 pr => ?_) k
  obtain ⟨F, a, b, o, ra, rb, tr, e, q⟩ := P2.inv (show P2 X.K .inR v w H2 Q from pr)
  cases a <;> cases b <;> simp [prim] at e
  rename_i i j
  subst e
  refine ⟨j, by rw [rb.int], fun p hp => ⟨i, p, 0, j, ra.int, rfl, upd_same, ?_⟩⟩
  have := q _ F (.bl (decide (0 ≤ i) && decide (i < j))) (Ext.new (o := .rng 0 j) hp tr) (.bl _)
  rw [show decide (0 ≤ i ∧ i < j) = (decide (0 ≤ i) && decide (i < j)) from by simp]
  exact this
theorem inR_call (o : XO X W c sc C cl Γ G) {f : Str} {b : Expr} {u : TE} {p1 p2 : Pos} (hb : blt sc f "range" = true) (hh : okHead b = true) (pb : PE X b u) : PE X (.Call (.Name f p1) [b] [] p2) (tCB (fun vs H Q => ∃ j, vs = [V.int j] ∧ ∀ p, H p = none → Q (.ref p) (upd H p (.rng 0 j))) (tCons u tNil)) := by
  obtain ⟨rfl, hg⟩ := blt_inv hb
  exact pe_callTy cr_range1 (glb_gl o.sc hg) (o.nob _ (by decide)) (by decide +kernel) (pa_cons pb pa_nil (starEach_ok hh _ _)) (by decide) (by decide) (starEach_ok hh _ _) rfl
theorem inR_form (o : XO X W c sc C cl Γ G) {f : Str} {a b : Expr} {pos p1 p2 : Pos} {ts : List TE} (hb : blt sc f "range" = true) (hp : PEs X [a, b] ts) : PE X (.Compare a [.In] [.Call (.Name f p1) [b] [] p2] pos) (tPR X.K .inR ts) := by
  cases hp with | cons _ ma ha r =>
  cases r with | cons ob mb hb' r =>
  cases r
  exact (pe_cmpR op_in_rng ha (inR_call o hb ob hb') rfl).imp fun σ H Q hq => inR_imp ma mb hq
theorem inR_formT (o : XO X W c sc C cl Γ G) {f : Str} {a b : Expr} {pos p1 p2 : Pos} {ts : List TE} (hb : blt sc f "range" = true) (hp : PEs X [a, b] ts) : PT X (.Compare a [.In] [.Call (.Name f p1) [b] [] p2] pos) (tTest (tPR X.K .inR ts)) := by
  cases hp with | cons _ ma ha r =>
  cases r with | cons ob mb hb' r =>
  cases r
  exact (pt_cmpR op_in_rng ha (inR_call o hb ob hb') rfl).imp fun σ H Q hq => inR_imp ma mb hq
theorem inRS_inv {xs : List Expr} (h : inRS sc x = some xs) : ∃ f p1 p2 pos a b, x = .Compare a [.In] [.Call (.Name f p1) [b] [] p2] pos ∧ blt sc f "range" = true ∧ xs = [a, b] := by
  unfold inRS at h
  split at h
  · split at h
    · cases h; exact ⟨_, _, _, _, _, _, rfl, by assumption, rfl⟩
    · cases h
  · cases h
theorem isN_imp {p : Pr} {t : TE} {σ : L2.St} {H : Hp} {Q : VK} (m : Mono t) (h : tPR X.K p [t] σ H Q) : tOp (fun x y H Q => y = .non ∧ P1 X.K p x H Q) t (tC .non) σ H Q :=
  m.m σ H _ _ (fun v H1 k => ⟨rfl, k⟩) h
theorem isN_form {op : CmpOp} {p : Pr} {a : Expr} {j : Nat} {p2 pos : Pos} {ts : List TE} (ho : OpR X (compareOp op) (fun x y H Q => y = .non ∧ P1 X.K p x H Q)) (hp : PEs X [a] ts) : PE X (.Compare a [op] [.Constant .none j p2] pos) (tPR X.K p ts) := by
  have m := hp
  obtain ⟨t, rfl, _, pa⟩ := hp.inv1
  cases m with | cons _ m _ _ =>
  exact (pe_cmpR ho pa pe_non (by rfl)).imp fun σ H Q hq => isN_imp m hq
theorem isN_formT {op : CmpOp} {p : Pr} {a : Expr} {j : Nat} {p2 pos : Pos} {ts : List TE} (ho : OpR X (compareOp op) (fun x y H Q => y = .non ∧ P1 X.K p x H Q)) (hp : PEs X [a] ts) : PT X (.Compare a [op] [.Constant .none j p2] pos) (tTest (tPR X.K p ts)) := by
  have m := hp
  obtain ⟨t, rfl, _, pa⟩ := hp.inv1
  cases m with | cons _ m _ _ =>
  exact (pt_cmpR ho pa pe_non (by rfl)).imp fun σ H Q hq => isN_imp m hq
theorem ix_form {a b : Expr} {pos : Pos} {ts : List TE} (hp : PEs X [a, b] ts) : PE X (.Subscript a b pos) (tPR X.K .ix ts) := by
  obtain ⟨t, u, rfl, _, hb, pa, pb⟩ := hp.inv2
  exact pe_ix po_ix pa pb (plainIx_ok hb)
theorem neg_form {a : Expr} {pos : Pos} {ts : List TE} (hp : PEs X [a] ts) : PE X (.UnaryOp .USub a pos) (tPR X.K .neg ts) := by
  obtain ⟨t, rfl, _, pa⟩ := hp.inv1
  exact pe_un po_neg pa
theorem op_eq_of {a b : Operator} (h : (a == b) = true) : a = b := by cases a <;> cases b <;> first | rfl | (cases h; done)
theorem cmp_eq_of {a b : CmpOp} (h : (a == b) = true) : a = b := by cases a <;> cases b <;> first | rfl | (cases h; done)
theorem binS_inv {op : Operator} {xs : List Expr} (h : binS op x = some xs) : ∃ a b pos, x = .BinOp a op b pos ∧ xs = [a, b] := by
  unfold binS at h
  split at h
  · split at h
    · rename_i e
      cases h; cases op_eq_of e; exact ⟨_, _, _, rfl, rfl⟩
    · cases h
  · cases h
theorem cmpS_inv {op : CmpOp} {xs : List Expr} (h : cmpS op x = some xs) : ∃ a b pos, x = .Compare a [op] [b] pos ∧ xs = [a, b] := by
  unfold cmpS at h
  split at h
  · split at h
    · rename_i e
      cases h; cases cmp_eq_of e; exact ⟨_, _, _, rfl, rfl⟩
    · cases h
  · cases h
theorem cmpN_inv {op : CmpOp} {xs : List Expr} (h : cmpN op x = some xs) : ∃ a j p2 pos, x = .Compare a [op] [.Constant .none j p2] pos ∧ xs = [a] := by
  unfold cmpN at h
  split at h
  · split at h
    · rename_i e
      cases h; cases cmp_eq_of e; exact ⟨_, _, _, _, rfl, rfl⟩
    · cases h
  · cases h
theorem callS_inv {y : Str} {xs : List Expr} (h : callS sc y x = some xs) : ∃ f p1 a pos, x = .Call (.Name f p1) [a] [] pos ∧ blt sc f y = true ∧ xs = [a] := by
  unfold callS at h
  split at h
  · split at h
    · cases h; exact ⟨_, _, _, _, rfl, by assumption, rfl⟩
    · cases h
  · cases h
theorem pr_form (o : XO X W c sc C cl Γ G) {p : Pr} {xs : List Expr} {ts : List TE} (hh : (c.hot && coldP p) = false) (h : shp sc p x = some xs) (hp : PEs X xs ts) : PE X x (tPR X.K p ts) := by
  have cold : coldP p = true → c.hot = false := fun z => by
    cases q : c.hot with
    | false => rfl
    | true => rw [q, z] at hh; cases hh
  have bin : ∀ {op : Operator} {p : Pr}, OpR X (binaryOp op) (P2 X.K p) → binS op x = some xs → PE X x (tPR X.K p ts) := fun ho h => by
    obtain ⟨a, b, pos, rfl, rfl⟩ := binS_inv h
    exact bin_form ho hp
  have cmp : ∀ {op : CmpOp} {p : Pr}, OpR X (compareOp op) (P2 X.K p) → cmpS op x = some xs → PE X x (tPR X.K p ts) := fun ho h => by
    obtain ⟨a, b, pos, rfl, rfl⟩ := cmpS_inv h
    exact cmp_form ho hp
  have cN : ∀ {op : CmpOp} {p : Pr}, OpR X (compareOp op) (fun x y H Q => y = .non ∧ P1 X.K p x H Q) → cmpN op x = some xs → PE X x (tPR X.K p ts) := fun ho h => by
    obtain ⟨a, j, p2, pos, rfl, rfl⟩ := cmpN_inv h
    exact isN_form ho hp
  have cB : ∀ {y : Str} {id : String} {p : Pr}, bootBuiltins y = some (.builtin id) → y ∈ bnames → y ≠ "__name__" → (y == ("__debug__" : Str)) = false → CallR X (.builtin id) (fun vs H Q => ∃ v, vs = [v] ∧ PR X.K p vs H Q) → callS sc y x = some xs → PE X x (tPR X.K p ts) := fun h1 h2 h3 h4 h5 h => by
    obtain ⟨f, p1, a, pos, rfl, hb, rfl⟩ := callS_inv h
    exact callB_form o hb h1 h2 h3 h4 h5 hp
  have cT : ∀ {y : Str} {id : String} {p : Pr}, bootBuiltins y = some (.type id) → y ∈ bnames → y ≠ "__name__" → (y == ("__debug__" : Str)) = false → CallR X (.type id) (fun vs H Q => ∃ v, vs = [v] ∧ PR X.K p vs H Q) → callS sc y x = some xs → PE X x (tPR X.K p ts) := fun h1 h2 h3 h4 h5 h => by
    obtain ⟨f, p1, a, pos, rfl, hb, rfl⟩ := callS_inv h
    exact callT_form o hb h1 h2 h3 h4 h5 hp
  cases p with
  | add => exact bin po_add h
  | sub => exact bin po_sub h
  | mul => exact bin po_mul h
  | fdiv => exact bin po_fdiv h
  | mod => exact bin po_mod h
  | pow => exact bin po_pow h
  | neg =>
    have h' : negS x = some xs := h
    unfold negS at h'
    split at h'
    · cases h'; exact neg_form hp
    · cases h'
  | eq => exact cmp (po_eq o.un) h
  | ne => exact cmp (po_ne o.un) h
  | lt => exact cmp po_lt h
  | le => exact cmp po_le h
  | gt => exact cmp po_gt h
  | ge => exact cmp po_ge h
  | inR =>
    obtain ⟨f, p1, p2, pos, a, b, rfl, hb, rfl⟩ := inRS_inv h
    exact inR_form o hb hp
  | isin => exact cmp po_in h
  | notin => exact cmp po_notin h
  | isB => exact cmp po_isB h
  | notB => exact cmp po_notB h
  | isN => exact cN po_isN h
  | notN => exact cN po_notN h
  | ix =>
    have h' : ixS x = some xs := h
    unfold ixS at h'
    split at h'
    · cases h'; exact ix_form hp
    · cases h'
  | tup =>
    have h' : tupS x = some xs := h
    unfold tupS at h'
    split at h'
    · cases h'; exact tup_form hp
    · cases h'
  | lst =>
    have h' : lstS x = some xs := h
    unfold lstS at h'
    split at h'
    · cases h'; exact lst_form hp
    · cases h'
  | len => exact cB PySem.boot_len (by decide) (by decide) (by decide) cb_len h
  | abs => exact cB (by decide +kernel) (by decide) (by decide) (by decide) cb_abs h
  | int => exact cT (by decide +kernel) (by decide) (by decide) (by decide) cb_int h
  | str => exact cT (by decide +kernel) (by decide) (by decide) (by decide) cb_str h
  | list => exact cT (by decide +kernel) (by decide) (by decide) (by decide) cb_list h
  | sum => exact cB (by decide +kernel) (by decide) (by decide) (by decide) (cb_sum (o.calm (cold rfl))) h
  | any => exact cB (by decide +kernel) (by decide) (by decide) (by decide) (cb_any (o.calm (cold rfl))) h
  | all => exact cB (by decide +kernel) (by decide) (by decide) (by decide) (cb_all (o.calm (cold rfl))) h
  | ord => exact cB (by decide +kernel) (by decide) (by decide) (by decide) cb_ord h
  | repr => exact cB (by decide +kernel) (by decide) (by decide) (by decide) (cb_repr (o.gd (cold rfl)) o.un) h
  | _ => cases h
end
end Mini

set_option Elab.async false
set_option linter.all false
set_option maxRecDepth 100000
/-! Mini: tests, chains, slices, methods. -/
namespace Mini
open PySem PySem.Spec PyProof.Rows L2
section
variable {X : Cx} {W : WX} {c : Ck} {sc : Scope} {C : Bx} {cl : Cl} {Γ : List Fn} {G : List D} {x : Expr}
theorem Rep.bl_inv {K : PySem.W.Frag} {H : Hp} {F : Fz} {v : V} {b : Bool} (h : Rep K H F v (.bl b)) : v = .bl b := by cases h; rfl
theorem tK_of {r : Ev → Res Out} {σ : L2.St} {H : Hp} {Q : Bool → Hp → Prop} (h : tK C cl W (fun e => toB (r e)) σ H Q) : tE C cl W r σ H (fun x H1 => ∃ k, x = .bl k ∧ Q k H1) := by
  obtain ⟨e, F, R, p⟩ := h
  refine ⟨e, F, R, Post.mono (Post.toB p) fun o e1 H1 F1 g1 R1 k v hv => ?_⟩
  obtain ⟨b, rfl, q⟩ := k
  exact ⟨b, Rep.bl_inv hv, q⟩
theorem isTrue_leaf (h : leafT x = true) (env : PySem.Env) : ∀ whole, isTrue x env whole = (do let v ← whole; standAt x.pos; holding [v] (truthy v)) := by
  intro whole
  cases x <;> first | rfl | (cases h; done)
theorem snd_leaf {r : Ev → Res Out} (hl : leafT x = true) (h : PE X x (tE C cl W r)) : PT X x (tK C cl W (fun e => toB (r e))) :=
  (pt_val h (isTrue_leaf hl _)).imp fun σ H Q hq => tK_of hq
/-! ### and, or, not -/
theorem snd_and {A B : E} {a b : Expr} {rest : List Expr} {pos : Pos} (ha : PE X a (tE C cl W (evE Γ G A))) (hb : PE X (.BoolOp .And (b :: rest) pos) (tE C cl W (evE Γ G B))) : PE X (.BoolOp .And (a :: b :: rest) pos) (tE C cl W (evE Γ G (.and A B))) := by
  refine (pe_and ha hb).imp fun σ H Q hq => ?_
  obtain ⟨e, F, R, p⟩ := hq
  simp only [evE] at p
  refine ⟨e, F, R, Post.mono (Post.toB (Post.bind p)) fun o e1 H1 F1 g1 R1 k v hv => ?_⟩
  obtain ⟨b, rfl, p1⟩ := k
  refine ⟨b, Rep.bl_inv hv, ?_⟩
  cases b with
  | true => rw [if_pos rfl]; exact ⟨e1, F1, R1, p1⟩
  | false => rw [if_neg Bool.false_ne_true]; exact p1 H1 F1 (.refl _ _) R1 _ (Rep.bl false)
theorem snd_or {A B : E} {a b : Expr} {rest : List Expr} {pos : Pos} (ha : PE X a (tE C cl W (evE Γ G A))) (hb : PE X (.BoolOp .Or (b :: rest) pos) (tE C cl W (evE Γ G B))) : PE X (.BoolOp .Or (a :: b :: rest) pos) (tE C cl W (evE Γ G (.or A B))) := by
  refine (pe_or ha hb).imp fun σ H Q hq => ?_
  obtain ⟨e, F, R, p⟩ := hq
  simp only [evE] at p
  refine ⟨e, F, R, Post.mono (Post.toB (Post.bind p)) fun o e1 H1 F1 g1 R1 k v hv => ?_⟩
  obtain ⟨b, rfl, p1⟩ := k
  refine ⟨b, Rep.bl_inv hv, ?_⟩
  cases b with
  | true => rw [if_pos rfl]; exact p1 H1 F1 (.refl _ _) R1 _ (Rep.bl true)
  | false => rw [if_neg Bool.false_ne_true]; exact ⟨e1, F1, R1, p1⟩
theorem snd_not {A : E} {a : Expr} {pos : Pos} (ha : PE X a (tE C cl W (evE Γ G A))) : PE X (.UnaryOp .Not a pos) (tE C cl W (evE Γ G (.not A))) := by
  refine (pe_not ha).imp fun σ H Q hq => ?_
  obtain ⟨e, F, R, p⟩ := hq
  simp only [evE] at p
  refine ⟨e, F, R, Post.mono (Post.toB (Post.bind p)) fun o e1 H1 F1 g1 R1 k v hv => ?_⟩
  obtain ⟨b, rfl, p1⟩ := k
  exact ⟨b, Rep.bl_inv hv, p1 H1 F1 (.refl _ _) R1 _ (Rep.bl (!b))⟩
theorem sndT_and {A B : E} {a b : Expr} {rest : List Expr} {pos : Pos} (ha : PT X a (tK C cl W fun e => toB (evE Γ G A e))) (hb : PW X (.BoolOp .And (b :: rest) pos) (tK C cl W fun e => toB (evE Γ G B e))) : PT X (.BoolOp .And (a :: b :: rest) pos) (tK C cl W fun e => toB (evE Γ G (.and A B) e)) := by
  refine (pw_and ha hb).pt.imp fun σ H Q hq => ?_
  obtain ⟨e, F, R, p⟩ := hq
  simp only [evE] at p
  have e2 : ∀ r : Res Bool, toB (r.bind fun x e1 => cond x (evE Γ G B e1) (.ok (.val (.bl false)) e1)) = r.bind fun x e1 => cond x (toB (evE Γ G B e1)) (.ok false e1) := fun r => by
    cases r with
    | bad => rfl
    | exc x e => rfl
    | ok b e => cases b <;> rfl
  rw [e2] at p
  refine ⟨e, F, R, Post.mono (Post.bind p) fun b e1 H1 F1 g1 R1 p1 => ?_⟩
  cases b with
  | true => rw [if_pos rfl]; exact ⟨e1, F1, R1, p1⟩
  | false => rw [if_neg Bool.false_ne_true]; exact p1 H1 F1 (.refl _ _) R1
theorem sndT_or {A B : E} {a b : Expr} {rest : List Expr} {pos : Pos} (ha : PT X a (tK C cl W fun e => toB (evE Γ G A e))) (hb : PW X (.BoolOp .Or (b :: rest) pos) (tK C cl W fun e => toB (evE Γ G B e))) : PT X (.BoolOp .Or (a :: b :: rest) pos) (tK C cl W fun e => toB (evE Γ G (.or A B) e)) := by
  refine (pw_or ha hb).pt.imp fun σ H Q hq => ?_
  obtain ⟨e, F, R, p⟩ := hq
  simp only [evE] at p
  have e2 : ∀ r : Res Bool, toB (r.bind fun x e1 => cond x (.ok (.val (.bl true)) e1) (evE Γ G B e1)) = r.bind fun x e1 => cond x (.ok true e1) (toB (evE Γ G B e1)) := fun r => by
    cases r with
    | bad => rfl
    | exc x e => rfl
    | ok b e => cases b <;> rfl
  rw [e2] at p
  refine ⟨e, F, R, Post.mono (Post.bind p) fun b e1 H1 F1 g1 R1 p1 => ?_⟩
  cases b with
  | true => rw [if_pos rfl]; exact p1 H1 F1 (.refl _ _) R1
  | false => rw [if_neg Bool.false_ne_true]; exact ⟨e1, F1, R1, p1⟩
theorem sndT_not {A : E} {a : Expr} {pos : Pos} (ha : PT X a (tK C cl W fun e => toB (evE Γ G A e))) : PT X (.UnaryOp .Not a pos) (tK C cl W fun e => toB (evE Γ G (.not A) e)) := by
  refine (pt_not ha).imp fun σ H Q hq => ?_
  obtain ⟨e, F, R, p⟩ := hq
  simp only [evE] at p
  have e2 : ∀ r : Res Bool, toB (r.bind fun x e1 => .ok (.val (.bl (!x))) e1) = r.bind fun x e1 => .ok (!x) e1 := fun r => by
    cases r <;> rfl
  rw [e2] at p
  exact ⟨e, F, R, Post.mono (Post.bind p) fun b e1 H1 F1 g1 R1 p1 => p1 H1 F1 (.refl _ _) R1⟩
/-- a test of a bool operation does not look at its whole -/
theorem pw_of_pt {op : PySem.BoolOp} {vs : List Expr} {pos : Pos} {t : TT} (h : PT X (.BoolOp op vs pos) t) : PW X (.BoolOp op vs pos) t := ⟨fun whole pins s σ H Q I hq => by
  have q := h.run pins s σ H Q I hq
  have e : ∀ w, isTrue (.BoolOp op vs pos) X.env w = isTrue (.BoolOp op vs pos) X.env (eval (.BoolOp op vs pos) X.env) := fun w => rfl
  rw [e]
  exact q⟩
theorem snd_ite {A B D : E} {a b d : Expr} {pos : Pos} (hc : PT X a (tK C cl W fun e => toB (evE Γ G A e))) (ha : PE X b (tE C cl W (evE Γ G B))) (hb : PE X d (tE C cl W (evE Γ G D))) : PE X (.IfExp a b d pos) (tE C cl W (evE Γ G (.ite A B D))) := by
  refine (pe_ifExp hc ha hb).imp fun σ H Q hq => ?_
  obtain ⟨e, F, R, p⟩ := hq
  simp only [evE] at p
  refine ⟨e, F, R, Post.mono (Post.bind p) fun b e1 H1 F1 g1 R1 p1 => ?_⟩
  cases b with
  | true => rw [if_pos rfl]; exact ⟨e1, F1, R1, p1⟩
  | false => rw [if_neg Bool.false_ne_true]; exact ⟨e1, F1, R1, p1⟩
/-! ### truth -/
theorem RV.truth {K : PySem.W.Frag} {H : Hp} {F : Fz} {n : Nat} {v : V} {d : D} {k : Bool} (r : RV K H F n v d) (h : Mini.truD d = some k) : TruV K v H k := by
  have em : ∀ {xs : List V} {ds : List D}, RepL K H F xs ds → xs.isEmpty = ds.isEmpty := fun {xs ds} r => by cases r <;> rfl
  cases d <;> simp only [Mini.truD, Option.some.injEq, reduceCtorEq] at h
  case non => subst h; rw [r.non]; rfl
  case bl b => subst h; rw [r.bl]; rfl
  case int i => subst h; rw [r.int]; rfl
  case str s =>
    subst h
    rw [r.str.1]
    refine ⟨by rw [sOf_length, ← SZ_eq]; exact r.str.2.1, ?_⟩
    rw [sOf_length]
    cases s with
    | nil => rfl
    | cons a b =>
      simp
      omega
  case lst ds =>
    subst h
    obtain ⟨a, xs, rfl, h1, h2⟩ := r.lst
    exact .inl ⟨xs, h1, by rw [em h2]⟩
  case tup ds =>
    subst h
    obtain ⟨a, xs, rfl, h1, h2⟩ := r.tup
    exact .inr (.inl ⟨xs, h1, by rw [em h2]⟩)
theorem toB_truth (r : Res D) : toB (r.bind truthOf) = r.bind fun d e1 => match truD d with | some k => .ok k e1 | none => .bad := by
  cases r with
  | bad => rfl
  | exc x e => rfl
  | ok d e =>
    show toB (truthOf d e) = _
    unfold truthOf
    show _ = (match truD d with | some k => Res.ok k e | none => .bad)
    cases truD d <;> rfl
theorem sndT_truth (o : XO X W c sc C cl Γ G) {A : E} (hl : leafT x = true) (hn : chkE c sc A x = true) (h : A.isRd = false → PE X x (tE C cl W (evE Γ G A))) : PT X x (tK C cl W fun e => toB (evE Γ G (.truth A) e)) := by
  have go : ∀ (r : Ev → Res Out), PE X x (tE C cl W r) → PT X x (tK C cl W (fun e => toB ((toV (r e)).bind truthOf))) := fun r hr => by
    refine (pt_truth (snd_val hr) (isTrue_leaf hl _)).imp fun σ H Q hq => ?_
    obtain ⟨e, F, R, p⟩ := hq
    have p : Post C cl W σ H F (toB ((toV (r e)).bind truthOf)) _ := p
    rw [toB_truth] at p
    refine ⟨e, F, R, Post.mono (Post.bind p) fun d e1 H1 F1 g1 R1 p1 v hv => ?_⟩
    cases ht : truD d with
    | none => rw [ht] at p1; exact False.elim p1
    | some k =>
      rw [ht] at p1
      refine ⟨k, ?_, p1 H1 F1 (.refl _ _) R1⟩
      rw [o.K]
      exact (hv.rv (n := 0)).truth ht
  cases A with
  | rd i =>
    have hn' : chkNm c sc i x = true := by simpa only [chkE] using hn
    refine (pt_truth (snd_P o h hn) (isTrue_leaf hl _)).imp fun σ H Q hq => ?_
    obtain ⟨e, F, R, p⟩ := hq
    have e2 : ∀ r : Res Opd, toB (r.bind getR) = r.bind fun op e1 => match op.get e1 0 with
        | some d => (match truD d with | some k => Res.ok k e1 | none => .bad)
        | none => .bad := fun r => by
      cases r with
      | bad => rfl
      | exc x e => rfl
      | ok op e1 =>
        show toB (getR op e1) = _
        unfold getR truthOf
        show _ = (match op.get e1 0 with
          | some d => (match truD d with | some k => Res.ok k e1 | none => .bad)
          | none => .bad)
        cases op.get e1 0 with
        | none => rfl
        | some d => dsimp only; cases truD d <;> rfl
    have p : Post C cl W σ H F (toB ((rdOp i e).bind getR)) _ := p
    rw [e2] at p
    refine ⟨e, F, R, Post.mono (Post.bind p) fun op e1 H1 F1 g1 R1 p1 v hv => ?_⟩
    cases hg : op.get e1 0 with
    | none => rw [hg] at p1; exact False.elim p1
    | some d =>
      rw [hg] at p1
      dsimp only at p1
      cases ht : truD d with
      | none => rw [ht] at p1; exact False.elim p1
      | some k =>
        rw [ht] at p1
        refine ⟨k, ?_, p1 H1 F1 (.refl _ _) R1⟩
        rw [o.K]
        exact (opd_rv R1 hv hg).truth ht
  | _ => exact go _ (h rfl)
/-! ### chains -/
theorem cmpOf_op (o : XO X W c sc C cl Γ G) {p : Pr} {op : CmpOp} (h : cmpOf p op = true) : OpR X (compareOp op) (P2 X.K p) := by
  cases p <;> cases op <;> first
    | (cases h; done)
    | exact po_eq o.un
    | exact po_ne o.un
    | exact po_lt
    | exact po_le
    | exact po_gt
    | exact po_ge
theorem cmpOf_need {p : Pr} {op : CmpOp} (h : cmpOf p op = true) : p.need = 0 := by
  cases p <;> cases op <;> first
    | (cases h; done)
    | rfl
theorem RVs.two {K : PySem.W.Frag} {H : Hp} {F : Fz} {n : Nat} {x y : V} {a b : D} (r1 : Rep K H F x a) (r2 : Rep K H F y b) : RVs K H F n [x, y] [a, b] := .cons (.inl r1) (.cons (.inl r2) .nil)
theorem chain_of (o : XO X W c sc C cl Γ G) {q1 q2 : Pr} {A B D : E} {σ : L2.St} {H : Hp} {Q : VK} (h : tE C cl W (evE Γ G (.chain q1 q2 A B D)) σ H Q) :
    tChain (P2 X.K q1) (P2 X.K q2) (tD C cl W fun e => toV (evE Γ G A e)) (tD C cl W fun e => toV (evE Γ G B e)) (tD C cl W fun e => toV (evE Γ G D e)) σ H Q := by
  obtain ⟨e, F, R, p⟩ := h
  simp only [evE] at p
  refine ⟨e, F, R, Post.mono (Post.bind p) fun a e1 H1 F1 g1 R1 p1 va ra => ?_⟩
  refine ⟨e1, F1, R1, Post.mono (Post.bind p1) fun b e2 H2 F2 g2 R2 p2 vb rb => ?_⟩
  have ra2 := ra.grow g2
  rw [o.K]
  cases hp : prim q1 [a, b] with
  | none => rw [hp] at p2; exact False.elim p2
  | some out =>
    rw [hp] at p2
    refine ⟨F2, [a, b], out, RVs.two ra2 rb, R2.tr, hp, fun H3 F3 w x n => ?_⟩
    have R3 := R2.ext x
    have g3 := x.grow
    cases out with
    | own d => exact False.elim p2
    | val d =>
      cases d with
      | bl k =>
        refine ⟨k, Rep.bl_inv n, ?_⟩
        cases k with
        | false => rw [if_neg Bool.false_ne_true]; exact p2 H3 F3 g3 R3 _ (Rep.bl false)
        | true =>
          rw [if_pos rfl]
          refine ⟨e2, F3, R3, Post.mono (Post.bind (Post.up p2 g3)) fun z e4 H4 F4 g4 R4 p4 vz rz => ?_⟩
          unfold primR at p4
          dsimp only at p4
          cases hp4 : prim q2 [b, z] with
          | none => rw [hp4] at p4; exact False.elim p4
          | some o4 =>
            rw [hp4] at p4
            refine ⟨F4, [b, z], o4, RVs.two ((rb.grow g3).grow g4) rz, R4.tr, hp4, fun H5 F5 w5 x5 n5 => ?_⟩
            exact p4 H5 F5 x5.grow (R4.ext x5) w5 (NewOk.out R4 x5 n5)
      | _ => exact False.elim p2
end
end Mini

set_option Elab.async false
set_option linter.all false
set_option maxRecDepth 100000
/-! Mini: what changes lists; slices, methods. -/
namespace Mini
open PySem PySem.Spec PyProof.Rows L2
section
variable {X : Cx} {W : WX} {c : Ck} {sc : Scope} {C : Bx} {cl : Cl} {Γ : List Fn} {G : List D} {x : Expr}
theorem mut_inv {e : Ev} {σ : L2.St} {H : Hp} {F : Fz} {i : Nat} {d : D} (R : Rel C e σ H F) (h : getOwn e i = some d) :
    ∃ a, σ.getD i none = some (.ref a) ∧ TL C.K H F a d ∧ ¬ F a ∧ (e.at i).mut = true ∧ (C.H0 a = none ∨ (i, a) ∈ C.B) := by
  have s := R.slot i
  unfold getOwn at h
  cases q : e.at i <;> rw [q] at s h <;> first
    | (cases h; done)
    | skip
  · cases h
    obtain ⟨a, e1, t, hf, h0⟩ := s
    exact ⟨a, e1, t, hf, rfl, .inl h0⟩
  · cases h
    obtain ⟨a, e1, t, hf, h0⟩ := s
    exact ⟨a, e1, t, hf, rfl, .inr h0⟩
theorem setOwn_inv {e e' : Ev} {i : Nat} {d : D} (h : setOwn e i d = some e') : (∃ d0, e.at i = .own d0 ∧ e' = e.set i (.own d)) ∨ (∃ d0, e.at i = .bor d0 ∧ e' = e.set i (.bor d)) := by
  unfold setOwn at h
  cases q : e.at i <;> rw [q] at h <;> first
    | (cases h; done)
    | (cases h; first | exact .inl ⟨_, rfl, rfl⟩ | exact .inr ⟨_, rfl, rfl⟩)
/-- a list of its own, or a lent one, is written -/
theorem Rel.write {e e' : Ev} {σ : L2.St} {H : Hp} {F : Fz} {i : Nat} {l : Addr} {xs ys : List V} {ds : List D} (R : Rel C e σ H F) (hσ : σ.getD i none = some (.ref l)) (hl : H l = some (.lst ys)) (hn : ¬ F l) (r : RepL C.K H F xs ds) (hs : setOwn e i (.lst ds) = some e') :
    Grow H F (upd H l (.lst xs)) F ∧ Rel C e' σ (upd H l (.lst xs)) F := by
  have g : Grow H F (upd H l (.lst xs)) F := ⟨fun _ h => h, fun a o h e1 => by
    rw [upd_ne (fun z => hn (by rw [← z]; exact h))]; exact e1⟩
  have hm : (e.at i).mut = true ∧ i < e.length := by
    rcases setOwn_inv hs with ⟨d0, q, _⟩ | ⟨d0, q, _⟩
    · exact ⟨by rw [q]; rfl, Ev.at_lt (by rw [q]; simp)⟩
    · exact ⟨by rw [q]; rfl, Ev.at_lt (by rw [q]; simp)⟩
  have s := R.slot i
  rw [hσ] at s
  have side : C.H0 l = none ∨ (i, l) ∈ C.B := by
    cases q : e.at i <;> rw [q] at s hm <;> first
      | (cases hm.1; done)
      | (obtain ⟨a, e1, t, hf, h0⟩ := s; cases e1; first | exact .inl h0 | exact .inr h0)
  have kinds : ∀ j, (Ev.at e' j).mut = (e.at j).mut ∧ (Ev.at e' j).listy = (e.at j).listy := fun j => by
    rcases setOwn_inv hs with ⟨d0, q, rfl⟩ | ⟨d0, q, rfl⟩
    · rw [Ev.at_set]; split
      · rename_i z; rw [← z.1, q]; exact ⟨rfl, rfl⟩
      · exact ⟨rfl, rfl⟩
    · rw [Ev.at_set]; split
      · rename_i z; rw [← z.1, q]; exact ⟨rfl, rfl⟩
      · exact ⟨rfl, rfl⟩
  have other : ∀ j, j ≠ i → Ev.at e' j = e.at j := fun j hj => by
    rcases setOwn_inv hs with ⟨d0, q, rfl⟩ | ⟨d0, q, rfl⟩
    · rw [Ev.at_set, if_neg (fun z => hj z.1.symm)]
    · rw [Ev.at_set, if_neg (fun z => hj z.1.symm)]
  have elen : e'.length = e.length := by
    rcases setOwn_inv hs with ⟨d0, q, rfl⟩ | ⟨d0, q, rfl⟩ <;> exact List.length_set
  refine ⟨g, ⟨by rw [elen]; exact R.len, R.fz, R.fz', fun a h => ?_, fun a o h hb => ?_, fun p hp => ⟨?_, ?_⟩, fun j => ?_, fun j k a hjk hm' hl' h1 h2 => ?_, fun p hp => ?_⟩⟩
  · rw [upd_ne (fun z => hn (by rw [← z]; exact h))]; exact R.tr a h
  · have : a ≠ l := fun z => by
      subst z
      rcases side with q | q
      · rw [q] at h; cases h
      · exact hb (List.mem_map.mpr ⟨_, q, rfl⟩)
    rw [upd_ne this]; exact R.keep a o h hb
  · by_cases z : p.2 = l
    · rw [z, upd_same]; simp
    · rw [upd_ne z]; exact (R.lent p hp).1
  · obtain ⟨d, hd⟩ := (R.lent p hp).2
    by_cases z : p.1 = i
    · rcases setOwn_inv hs with ⟨d0, q, rfl⟩ | ⟨d0, q, rfl⟩
      · rw [z, q] at hd; cases hd
      · exact ⟨.lst ds, by rw [z, Ev.at_set, if_pos ⟨rfl, hm.2⟩]⟩
    · exact ⟨d, by rw [other _ z]; exact hd⟩
  · by_cases z : j = i
    · subst z
      rcases setOwn_inv hs with ⟨d0, q, rfl⟩ | ⟨d0, q, rfl⟩
      · rw [Ev.at_set, if_pos ⟨rfl, hm.2⟩]
        rw [q] at s
        obtain ⟨a, e1, t, hf, h0⟩ := s
        cases e1
        exact ⟨l, hσ, ⟨xs, ds, rfl, upd_same, r.grow g⟩, hn, h0⟩
      · rw [Ev.at_set, if_pos ⟨rfl, hm.2⟩]
        rw [q] at s
        obtain ⟨a, e1, t, hf, h0⟩ := s
        cases e1
        exact ⟨l, hσ, ⟨xs, ds, rfl, upd_same, r.grow g⟩, hn, h0⟩
    · rw [other j z]
      have sj := R.slot j
      have ne : ∀ a, σ.getD j none = some (.ref a) → (e.at j).listy = true → a ≠ l := fun a h1 h2 h3 => by
        subst h3
        exact R.apart i j a (Ne.symm z) hm.1 h2 hσ h1
      have tl : ∀ a d, a ≠ l → TL C.K H F a d → TL C.K (upd H l (.lst xs)) F a d := fun a d hne ⟨ys, es, e1, k1, k2⟩ => ⟨ys, es, e1, by rw [upd_ne hne]; exact k1, k2.grow g⟩
      cases q : e.at j with
      | no => trivial
      | val d => rw [q] at sj; obtain ⟨v, e1, r⟩ := sj; exact ⟨v, e1, r.grow g⟩
      | own d =>
        rw [q] at sj ne; obtain ⟨a, e1, t, hf, h0⟩ := sj
        exact ⟨a, e1, tl a d (ne a e1 rfl) t, hf, h0⟩
      | bor d =>
        rw [q] at sj ne; obtain ⟨a, e1, t, hf, h0⟩ := sj
        exact ⟨a, e1, tl a d (ne a e1 rfl) t, hf, h0⟩
      | ro d =>
        rw [q] at sj; obtain ⟨a, e1, ys', es, e2, k1, k3, k2⟩ := sj
        exact ⟨a, e1, ys', es, e2, k1, k3, k2.grow g⟩
      | st d =>
        rw [q] at sj; obtain ⟨a, e1, ys', es, e2, k1, k2⟩ := sj
        exact ⟨a, e1, ys', es, e2, k1, k2.grow g⟩
      | err x => rw [q] at sj; exact sj
  · rw [(kinds j).1] at hm'
    rw [(kinds k).2] at hl'
    exact R.apart j k a hjk hm' hl' h1 h2
  · obtain ⟨p1, p2, p3⟩ := R.pin p hp
    have hne : p.1 ≠ l := fun z => p3 i (by
      have := hm.1
      cases q : e.at i <;> rw [q] at this <;> first | (cases this; done) | rfl) (by rw [z]; exact hσ)
    exact ⟨by rw [upd_ne hne]; exact p1, p2, fun j hj => p3 j (by rw [← (kinds j).2]; exact hj)⟩
/-- what a list's method asks of the list and its arguments -/
def rMu (K : PySem.W.Frag) (m : Mu) : V → List V → Hp → VK → Prop := fun x vs H Q => ∃ F l xs ds es d' o, x = .ref l ∧ H l = some (.lst xs) ∧ RepL K H F xs ds ∧ RVs K H F 2 vs es ∧ muL m ds es = some (d', o) ∧
  ∀ ys v, RepL K H F ys d' → Rep K H F v o → Q v (upd H l (.lst ys))
theorem mm_append : MtR X "list.append" (rMu X.K .append) := by
  intro pins s σ H x vs v us Q I rx rv h
  obtain ⟨F, l, xs, ds, es, d', o, rfl, hl, r, rs, e, q⟩ := h
  simp only [muL] at e
  split at e
  · split at e
    · rename_i hz
      cases e
      have rs' := RVs.reps rs
      cases rs' with | cons r1 r2 =>
      cases r2
      exact mt_append pins s σ H _ _ v us Q I rx rv ⟨l, xs, _, rfl, rfl, hl, by rw [r.length, ← SZ_eq]; exact hz, q _ _ (r.append (.cons r1 .nil)) .non⟩
    · cases e
  · cases e
theorem Rep.lst_inv {K : PySem.W.Frag} {H : Hp} {F : Fz} {v : V} {ds : List D} (r : Rep K H F v (.lst ds)) : ∃ a xs, v = .ref a ∧ F a ∧ H a = some (.lst xs) ∧ RepL K H F xs ds := by
  cases r with | lst f e r => exact ⟨_, _, rfl, f, e, r⟩
theorem mm_extend : MtR X "list.extend" (rMu X.K .extend) := by
  intro pins s σ H x vs v us Q I rx rv h
  obtain ⟨F, l, xs, ds, es, d', o, rfl, hl, r, rs, e, q⟩ := h
  simp only [muL] at e
  split at e
  · split at e
    · rename_i hz
      cases e
      have rs' := RVs.reps rs
      cases rs' with | cons r1 r2 =>
      cases r2
      obtain ⟨a, ys, rfl, _, f2, f3⟩ := r1.lst_inv
      exact mt_extend pins s σ H _ _ v us Q I rx rv ⟨l, _, xs, _, rfl, rfl, hl, f2, by rw [r.length, f3.length, ← SZ_eq]; exact hz, q _ _ (r.append f3) .non⟩
    · cases e
  · cases e
theorem mm_pop : MtR X "list.pop" (rMu X.K .pop) := by
  intro pins s σ H x vs v us Q I rx rv h
  obtain ⟨F, l, xs, ds, es, d', o, rfl, hl, r, rs, e, q⟩ := h
  simp only [muL] at e
  split at e
  · split at e
    · rename_i y hy
      cases e
      cases rs
      rw [List.getLast?_eq_getElem?] at hy
      obtain ⟨w, hw, rw'⟩ := r.get hy
      exact mt_pop pins s σ H _ _ v us Q I rx rv ⟨l, xs, w, rfl, rfl, hl, by rw [r.length]; exact hw, q _ _ r.dropLast rw'⟩
    · cases e
  · cases e
theorem mm_reverse : MtR X "list.reverse" (rMu X.K .reverse) := by
  intro pins s σ H x vs v us Q I rx rv h
  obtain ⟨F, l, xs, ds, es, d', o, rfl, hl, r, rs, e, q⟩ := h
  simp only [muL] at e
  split at e
  · cases e
    cases rs
    exact mt_reverse pins s σ H _ _ v us Q I rx rv ⟨l, xs, rfl, rfl, hl, q _ _ r.reverse .non⟩
  · cases e
def muId : Mu → String
  | .append => "list.append"
  | .extend => "list.extend"
  | .pop => "list.pop"
  | .reverse => "list.reverse"
theorem mm_all (m : Mu) : MtR X (muId m) (rMu X.K m) := by
  cases m with
  | append => exact mm_append
  | extend => exact mm_extend
  | pop => exact mm_pop
  | reverse => exact mm_reverse
theorem mu_slot (m : Mu) : Slot "list" (muName m) (muId m) := by
  cases m with
  | append => exact PySem.F.slot_list_append
  | extend => exact PySem.F.slot_list_extend
  | pop => exact PySem.F.slot_list_pop
  | reverse => exact PySem.F.slot_list_reverse
theorem mu_type (m : Mu) : typeOf (.builtin (muId m)) = pure (.type "method_descriptor") := by
  cases m with
  | append => exact PySem.F.type_list_append
  | extend => exact PySem.F.type_list_extend
  | pop => exact PySem.F.type_list_pop
  | reverse => exact PySem.F.type_list_reverse
/-- from the evaluator: the list is there, then the arguments, then the change -/
theorem mu_of (o : XO X W c sc C cl Γ G) {m : Mu} {i : Nat} {es : List E} {σ : L2.St} {H : Hp} {Q : VK} (h : tE C cl W (evE Γ G (.mu m i es)) σ H Q) :
    ∃ v, σ[i]? = some (some v) ∧ tyV X.K "list" v H ∧ seqT (es.map fun x => tP C cl W (evP Γ G x)) σ H (fun vs H1 => rMu X.K m v vs H1 Q) := by
  obtain ⟨e, F, R, p⟩ := h
  simp only [evE] at p
  cases hg : getOwn e i with
  | none => rw [hg] at p; exact False.elim p
  | some d =>
    rw [hg] at p
    obtain ⟨a, ha, ⟨xs, ds, rfl, t1, t2⟩, hf, _, _⟩ := mut_inv R hg
    refine ⟨.ref a, st_some ha, .inl ⟨rfl, xs, .of t1⟩, ?_⟩
    refine seqT_of es σ H _ ⟨e, F, R, Post.mono (Post.bind p) fun os e1 H1 F1 g1 R1 p1 vs hvs => ?_⟩
    unfold muR at p1
    split at p1
    · rename_i ds1 es1 hg1 ho
      split at p1
      · rename_i ys r hm
        split at p1
        · rename_i e2 hs
          obtain ⟨a1, ha1, ⟨xs1, ds1', e3, t3, t4⟩, hf1, _, _⟩ := mut_inv R1 hg1
          cases e3
          have e4 : a1 = a := by rw [ha] at ha1; cases ha1; rfl
          subst e4
          rw [o.K]
          refine ⟨F1, a1, xs1, ds1, es1, ys, r, rfl, t3, t4, opds_rv R1 hvs ho, hm, fun zs v rz rv => ?_⟩
          obtain ⟨g, R2⟩ := R1.write ha1 t3 hf1 rz hs
          exact p1 _ F1 g R2 v (rv.grow g)
        · exact False.elim p1
      · exact False.elim p1
    · exact False.elim p1
theorem snd_mu (o : XO X W c sc C cl Γ G) {m : Mu} {i : Nat} {es : List E} {ob : Expr} {as : List Expr} {ap cp : Pos} (hn : chkNm c sc i ob = true) (hl : (ap.endLine == cp.line) = true) (hr : recv ob = true) (hf : as.length ≤ 1)
    (hp : PEs X as (es.map fun x => tP C cl W (evP Γ G x))) : PE X (.Call (.Attribute ob (muName m) ap) as [] cp) (tE C cl W (evE Γ G (.mu m i es))) := by
  have pn := pe_nm o hn
  match as, hf, hp with
  | [], _, hp =>
    refine (pe_bm0 PySem.F.plainAttrs_list (mu_slot m) (mu_type m) (mm_all m) pn (recv_ok hr _ _) hl).imp fun σ H Q hq => ?_
    obtain ⟨v, h1, h2, h3⟩ := mu_of o hq
    refine ⟨v, h1, h2, ?_⟩
    have e : es.map (fun x => tP C cl W (evP Γ G x)) = [] := by generalize es.map (fun x => tP C cl W (evP Γ G x)) = ts at hp; cases hp; rfl
    rw [e] at h3
    exact h3
  | [a], _, hp =>
    have hp' := hp
    obtain ⟨t, e, ha, pa⟩ := hp.inv1
    refine (pe_bm PySem.F.plainAttrs_list (mu_slot m) (mu_type m) (mm_all m) pn (pa_cons pa pa_nil (starEach_ok ha _ _)) (recv_ok hr _ _) (few ha) hl (starEach_ok ha _ _) rfl).imp fun σ H Q hq => ?_
    obtain ⟨v, h1, h2, h3⟩ := mu_of o hq
    rw [e] at h3
    exact ⟨v, h1, h2, h3⟩
  | _ :: _ :: _, h, _ => exact absurd h (by simp)
end
end Mini

set_option Elab.async false
set_option linter.all false
set_option maxRecDepth 100000
/-! Mini: where a sign stands in a text; how often a value stands in a list. -/
namespace Mini
open PySem PySem.Spec PyProof.Rows L2
open PySem.StrLaws PySem.Builtin.Str
theorem occ_filter (x : PySem.Str) (c lim : Nat) : ∀ (n a : Nat) (acc : Array Nat) (free : Nat), free ≤ a →
    (forIn (List.range' a n) (acc, free) (occBody x ⟨#[c]⟩ x.length lim)).run.fst.toList = acc.toList ++ ((List.range' a n).filter fun i => decide (x.cps.toList[i]? = some c)).take (lim - acc.size)
  | 0, a, acc, free, h => by simp
  | n + 1, a, acc, free, h => by
    rw [List.range'_succ, List.forIn_cons]
    unfold occBody
    by_cases hc : x.cps.toList[a]? = some c
    · have h1 := (subAt_one x c a).mpr hc
      by_cases hl : acc.size < lim
      · rw [if_pos ⟨⟨⟨hl, h⟩, h1.1⟩, h1.2⟩]
        show (forIn (List.range' (a + 1) n) (acc.push a, a + 1) (occBody x ⟨#[c]⟩ x.length lim)).run.fst.toList = _
        rw [occ_filter x c lim n (a + 1) (acc.push a) (a + 1) (Nat.le_refl _), List.filter_cons_of_pos (by simpa using hc)]
        have : lim - acc.size = lim - (acc.push a).size + 1 := by rw [Array.size_push]; omega
        rw [this, List.take_succ_cons, Array.toList_push, List.append_assoc]
        rfl
      · rw [if_neg (fun z => hl z.1.1.1)]
        show (forIn (List.range' (a + 1) n) (acc, free) (occBody x ⟨#[c]⟩ x.length lim)).run.fst.toList = _
        rw [occ_filter x c lim n (a + 1) acc free (by omega)]
        have : lim - acc.size = 0 := by omega
        rw [this, List.take_zero, List.take_zero]
    · rw [if_neg (fun z => hc ((subAt_one x c a).mp ⟨z.1.2, z.2⟩))]
      show (forIn (List.range' (a + 1) n) (acc, free) (occBody x ⟨#[c]⟩ x.length lim)).run.fst.toList = _
      rw [occ_filter x c lim n (a + 1) acc free (by omega), List.filter_cons_of_neg (by simpa using hc)]
theorem occ_one (x : PySem.Str) (c lim : Nat) : occurrences x ⟨#[c]⟩ 0 x.length lim = ((List.range' 0 (x.length + 1)).filter fun i => decide (x.cps.toList[i]? = some c)).take lim := by
  rw [occ_eq, occ_filter x c lim _ _ _ _ (Nat.le_refl _)]
  simp
/-- the places of a sign -/
def places (c : Nat) : Nat → List Nat → List Nat
  | _, [] => []
  | k, x :: xs => if x = c then k :: places c (k + 1) xs else places c (k + 1) xs
theorem filter_places (c : Nat) : ∀ (z : List Nat) (k : Nat) (p : Nat → Option Nat), (∀ i, p (k + i) = z[i]?) → ((List.range' k (z.length + 1)).filter fun i => decide (p i = some c)) = places c k z
  | [], k, p, h => by
    have h0 := h 0
    simp at h0
    simp [places, List.range'_succ, h0]
  | x :: z, k, p, h => by
    have ih := filter_places c z (k + 1) p (fun i => by have := h (i + 1); rw [show k + 1 + i = k + (i + 1) from by omega, this]; rfl)
    have h0 := h 0
    simp at h0
    rw [List.length_cons, List.range'_succ]
    unfold places
    by_cases hx : x = c
    · rw [if_pos hx, List.filter_cons_of_pos (by simp [h0, hx]), ih]
    · rw [if_neg hx, List.filter_cons_of_neg (by simp [h0, hx]), ih]
theorem places_count (c : Nat) : ∀ (z : List Nat) (k : Nat), (places c k z).length = z.count c
  | [], k => rfl
  | x :: z, k => by
    have ih := places_count c z (k + 1)
    unfold places
    by_cases hx : x = c
    · rw [if_pos hx, List.length_cons, ih, List.count_cons, if_pos (by simpa using hx)]
    · rw [if_neg hx, ih, List.count_cons, if_neg (by simpa using hx)]; rfl
theorem places_head (c : Nat) : ∀ (z : List Nat) (k : Nat), (places c k z).head? = (z.findIdx? (· == c)).map (k + ·)
  | [], k => rfl
  | x :: z, k => by
    have ih := places_head c z (k + 1)
    unfold places
    rw [List.findIdx?_cons]
    by_cases hx : x = c
    · rw [if_pos hx, if_pos (by simpa using hx)]; rfl
    · rw [if_neg hx, if_neg (by simpa using hx), ih, Option.map_map]
      congr 1
      funext i
      simp only [Function.comp]
      omega
theorem occ_sOf (z : List Nat) (c lim : Nat) : occurrences (sOf z) (sOf [c]) 0 (sOf z).length lim = (places c 0 z).take lim := by
  have e : (sOf [c] : PySem.Str) = ⟨#[c]⟩ := rfl
  rw [e, occ_one, sOf_length]
  rw [filter_places c z 0 (fun i => (sOf z).cps.toList[i]?) (fun i => by simp [sOf])]
theorem count_sOf (z : List Nat) (c : Nat) : Txt.count (sOf z) (sOf [c]) = ((z.count c : Nat) : Int) := by
  show (((occurrences (sOf z) (sOf [c]) 0 (sOf z).length ((sOf z).length + 1)).length : Nat) : Int) = _
  rw [occ_sOf, List.take_of_length_le (by rw [places_count, sOf_length]; exact Nat.le_succ_of_le List.count_le_length), places_count]
theorem find_sOf (z : List Nat) (c : Nat) : Txt.find (sOf z) (sOf [c]) = findF z c := by
  have h := places_head c z 0
  show (match occurrences (sOf z) (sOf [c]) 0 (sOf z).length 1 with | i :: _ => (i : Int) | [] => -1) = _
  rw [occ_sOf]
  unfold findF
  cases hp : places c 0 z with
  | nil =>
    rw [hp] at h
    cases hf : z.findIdx? (· == c) with
    | none => rfl
    | some j => rw [hf] at h; cases h
  | cons i r =>
    rw [hp] at h
    cases hf : z.findIdx? (· == c) with
    | none => rw [hf] at h; cases h
    | some j =>
      rw [hf] at h
      simp at h
      rw [List.take_succ_cons]
      show (i : Int) = (j : Int)
      omega
theorem index_sOf {z : List Nat} {c j : Nat} (h : z.findIdx? (· == c) = some j) : ∃ r, occurrences (sOf z) (sOf [c]) 0 (sOf z).length 1 = j :: r := by
  have hh := places_head c z 0
  rw [h] at hh
  rw [occ_sOf]
  cases hp : places c 0 z with
  | nil => rw [hp] at hh; cases hh
  | cons i r =>
    rw [hp] at hh
    simp at hh
    exact ⟨_, by rw [List.take_succ_cons, hh]⟩
theorem mt_sindex {X : Cx} : MtR X "str.index" (fun x xs H Q => ∃ (a b : PySem.Str) (k : Nat) (r : List Nat), x = .str a ∧ xs = [.str b] ∧ occurrences a b 0 a.length 1 = k :: r ∧ Q (.int (k : Int)) H) := by
  intro pins s σ H x xs v us Q I rx rs h
  obtain ⟨a, b, k, r, rfl, rfl, q, w⟩ := h
  obtain ⟨t, rfl⟩ := rx
  cases rs with
  | cons r1 rs =>
    cases rs
    obtain ⟨u, rfl⟩ := r1
    exact PySem.SC.index q ⟨.int (k : Nat), H, I.tok _, ⟨_, rfl⟩, w⟩
theorem vals_count {x : V} : ∀ {xs : List V} {us : List Value}, Vals xs us → xs.all flatV = true → us.countP (eqU x) = xs.countP (fun y => eqV y x)
  | _, _, .nil, _ => rfl
  | y :: ys, u :: us, .cons r t, f => by
    rw [List.all_cons, Bool.and_eq_true] at f
    rw [List.countP_cons, List.countP_cons, vals_count t f.2, eqU_of r f.1]
theorem mt_lcountV {X : Cx} : MtR X "list.count" (fun x xs H Q => ∃ (a : Addr) (ys : List V) (y : V), x = V.ref a ∧ xs = [y] ∧ SqL X.K H a ys ∧ flatV y = true ∧ ys.all flatV = true ∧ Q (.int ((ys.countP (fun z => eqV z y) : Nat) : Int)) H) := by
  intro pins s σ H x xs v us Q I rx rxs h
  obtain ⟨a, ys, y, rfl, rfl, hs, fy, fys, q⟩ := h
  cases rx
  cases rxs with
  | cons ry rt =>
    rename_i uy ut
    cases rt
    obtain ⟨its, rv, ⟨⟨cls, dd, data, sl⟩, n, ho, hc, hdn, hd⟩, hlen⟩ := I.list hs
    simp only at hc hd
    subst hc hd
    refine call_meets PySem.F.slot_list_count ⟨_, ho, rfl⟩ PySem.F.entry_list_count (PySem.F.args_list_count_2 _ _)
      (SeqAt.list_countAt a its.toArray n dd sl uy (eqU y)) ⟨ho, fun u' hu' => mem_eqAt ry fy rv fys u' (by simpa using hu'), ?_⟩
    have ec : its.toArray.toList.countP (eqU y) = ys.countP (fun z => eqV z y) := vals_count rv fys
    refine ⟨.int ((ys.countP (fun z => eqV z y) : Nat) : Int), H, I.tok _, ⟨s.toks, ?_⟩, q⟩
    show Value.int ((its.toArray.toList.countP (eqU y) : Nat) : Int) s.toks = _
    rw [ec]
theorem RepL.countV {K : PySem.W.Frag} {H : Hp} {F : Fz} {m : Nat} {x : V} {d : D} (k : RV K H F m x d) (g : Mini.flat d = true) : ∀ {xs : List V} {ds : List D}, RepL K H F xs ds → ds.all Mini.flat = true → xs.countP (fun z => eqV z x) = ds.countP fun y => deq y d
  | _, _, .nil, _ => rfl
  | _, _, .cons r t, f => by
    rw [List.all_cons, Bool.and_eq_true] at f
    rw [List.countP_cons, List.countP_cons, RepL.countV k g t f.2, (r.rv (n := 0)).eqV k f.1 g]
end Mini

set_option Elab.async false
set_option linter.all false
set_option maxRecDepth 100000
/-! Mini: slices, methods, calls. -/
namespace Mini
open PySem PySem.Spec PyProof.Rows L2
section
variable {X : Cx} {W : WX} {c : Ck} {sc : Scope} {C : Bx} {cl : Cl} {Γ : List Fn} {G : List D} {x : Expr}
/-! ### slices -/
def tO (C : Bx) (cl : Cl) (W : WX) (r : Ev → Res (Option Int)) : TO := fun σ H Q => ∃ e F, Rel C e σ H F ∧ Post C cl W σ H F (r e) (fun l e' H' F' => Q l H')
theorem snd_b (lo : Option E) (l : Option Expr) (h : ∀ e x, lo = some e → l = some x → PE X x (tE C cl W (evE Γ G e))) (hn : chkB c sc lo l = true) : PO X l (tO C cl W (evB Γ G lo)) := by
  cases lo with
  | none =>
    cases l with
    | some x => simp [chkB] at hn
    | none =>
      refine ⟨fun pins s σ H Q I hq => po_none.run pins s σ H Q I ?_⟩
      obtain ⟨e, F, R, p⟩ := hq
      simp only [evB] at p
      exact p H F (.refl _ _) R
  | some a =>
    cases l with
    | none => simp [chkB] at hn
    | some x =>
      have hx := h a x rfl rfl
      refine ⟨fun pins s σ H Q I hq => (po_some hx).run pins s σ H Q I ?_⟩
      obtain ⟨e, F, R, p⟩ := hq
      simp only [evB] at p
      refine ⟨e, F, R, ?_⟩
      cases hr : evE Γ G a e with
      | bad => rw [hr] at p; exact p
      | exc x e => rw [hr] at p; exact p
      | ok o e1 =>
        rw [hr] at p
        cases o with
        | own d => exact False.elim p
        | val d =>
          cases d with
          | int k =>
            intro H1 F1 g1 R1 v hv
            cases hv
            exact ⟨k, rfl, p H1 F1 g1 R1⟩
          | _ => exact False.elim p
theorem snd_slc (o : XO X W c sc C cl Γ G) {a : E} {lo hi : Option E} {y : Expr} {l h : Option Expr} {p2 pos : Pos} (hy : PE X y (tP C cl W (evP Γ G a))) (hl : PO X l (tO C cl W (evB Γ G lo))) (hh : PO X h (tO C cl W (evB Γ G hi))) :
    PE X (.Subscript y (.Slice l h none p2) pos) (tE C cl W (evE Γ G (.slc a lo hi))) := by
  refine (pe_slice sl_P hy hl hh).imp fun σ H Q hq => ?_
  obtain ⟨e, F, R, p⟩ := hq
  rw [evE_slc] at p
  refine ⟨e, F, R, Post.mono (Post.bind p) fun op e1 H1 F1 g1 R1 p1 v hv => ?_⟩
  refine ⟨e1, F1, R1, Post.mono (Post.bind p1) fun l e2 H2 F2 g2 R2 p2 => ?_⟩
  refine ⟨e2, F2, R2, Post.mono (Post.bind p2) fun h e3 H3 F3 g3 R3 p3 => ?_⟩
  cases hd : op.get e3 0 with
  | none => rw [hd] at p3; exact False.elim p3
  | some d =>
    rw [hd] at p3
    have rv := opd_rv R3 ((hv.grow g2).grow g3) hd
    unfold slcR at p3
    dsimp only at p3
    cases hs : slcF d l h with
    | none => rw [hs] at p3; exact False.elim p3
    | some out =>
      rw [hs] at p3
      rw [o.K]
      exact ⟨F3, d, out, rv, R3.tr, hs, fun H' F' v x n => p3 H' F' x.grow (R3.ext x) v (n.out R3 x)⟩
/-! ### methods -/
def mtT : Mt → String
  | .index => "list"
  | .split => "str"
  | .join => "str"
  | .scount => "str"
  | .sfind => "str"
  | .sindex => "str"
  | .lcount => "list"
def mtId : Mt → String
  | .index => "list.index"
  | .split => "str.split"
  | .join => "str.join"
  | .scount => "str.count"
  | .sfind => "str.find"
  | .sindex => "str.index"
  | .lcount => "list.count"
theorem joinS_eq (sep : Str) (c : List Nat) (e : sep = sOf c) : ∀ l : List (List Nat), Str.join sep (l.map sOf) = sOf (joinL c l)
  | [] => rfl
  | [x] => rfl
  | x :: y :: r => by
    have ih := joinS_eq sep c e (y :: r)
    show sOf x ++ sep ++ Str.join sep ((y :: r).map sOf) = _
    rw [ih, e, sOf_append, sOf_append]
    rfl
theorem splitL_ne (c : Nat) : ∀ s : List Nat, splitL c s ≠ []
  | [] => by simp [splitL]
  | d :: r => by
    unfold splitL
    split
    · simp
    · split <;> simp
/-- pieces without the sign, joined by it, are the text's pieces -/
theorem splitL_join (c : Nat) : ∀ (l : List (List Nat)), l ≠ [] → (∀ p ∈ l, c ∉ p) → splitL c (joinL [c] l) = l := by
  have pre : ∀ (p : List Nat) (s : List Nat), c ∉ p → splitL c (p ++ s) = match splitL c s with | q :: qs => (p ++ q) :: qs | [] => [p] := by
    intro p
    induction p with
    | nil =>
      intro s _
      cases h : splitL c s with
      | nil => exact absurd h (splitL_ne c s)
      | cons q qs => simp [h]
    | cons d p ih =>
      intro s hc
      rw [List.mem_cons, not_or] at hc
      have := ih s hc.2
      rw [List.cons_append]
      rw [splitL, if_neg (fun z => hc.1 z.symm), this]
      cases h : splitL c s with
      | nil => exact absurd h (splitL_ne c s)
      | cons q qs => rfl
  intro l
  induction l with
  | nil => intro h; exact absurd rfl h
  | cons p l ih =>
    intro _ hc
    cases l with
    | nil =>
      have := pre p [] (hc p List.mem_cons_self)
      simpa [joinL, splitL] using this
    | cons q r =>
      have ih := ih (by simp) fun z hz => hc z (List.mem_cons_of_mem _ hz)
      show splitL c (p ++ [c] ++ joinL [c] (q :: r)) = _
      rw [List.append_assoc, pre p _ (hc p List.mem_cons_self)]
      show (match splitL c (c :: joinL [c] (q :: r)) with | q :: qs => (p ++ q) :: qs | [] => [p]) = _
      unfold splitL
      rw [if_pos rfl, ih]
      simp
theorem split_eq (a : List Nat) (c : Nat) : Txt.split (sOf a) (sOf [c]) = (splitL c a).map sOf := by
  have h1 := PySem.StrLaws.join_split (sOf a) (sOf [c])
  have h2 := PySem.StrLaws.split_free (sOf a) c
  have h3 := PyProof.Rows.split_pos (sOf a) (sOf [c])
  obtain ⟨l, hl⟩ : ∃ l : List (List Nat), Txt.split (sOf a) (sOf [c]) = l.map sOf := by
    refine ⟨(Txt.split (sOf a) (sOf [c])).map fun x => x.cps.toList, ?_⟩
    rw [List.map_map]
    exact (List.map_id _).symm
  have h2 : ∀ p ∈ Txt.split (sOf a) (sOf [c]), c ∉ p.cps.toList := h2
  rw [hl] at h1 h2 h3 ⊢
  rw [joinS_eq _ [c] rfl, sOf_inj] at h1
  have := splitL_join c l (fun z => by subst z; simp at h3) (fun p hp => h2 (sOf p) (List.mem_map.mpr ⟨p, hp, rfl⟩))
  rw [← this, h1]
theorem splitL_mem {c : Nat} : ∀ {s p : List Nat}, p ∈ splitL c s → p.length ≤ s.length ∧ ∀ d ∈ p, d ∈ s
  | [], p, h => by
    have : p = [] := by simpa [splitL] using h
    subst this; simp
  | d :: r, p, h => by
    unfold splitL at h
    split at h
    · rcases List.mem_cons.mp h with rfl | h
      · simp
      · have := splitL_mem h
        exact ⟨by simp; omega, fun x hx => List.mem_cons_of_mem _ (this.2 x hx)⟩
    · split at h
      · rename_i q qs hq
        have sub : ∀ z ∈ q :: qs, z.length ≤ r.length ∧ ∀ x ∈ z, x ∈ r := fun z hz => splitL_mem (by rw [hq]; exact hz)
        rcases List.mem_cons.mp h with rfl | h
        · have := sub q List.mem_cons_self
          refine ⟨by simp; omega, fun x hx => ?_⟩
          rcases List.mem_cons.mp hx with rfl | hx
          · exact List.mem_cons_self
          · exact List.mem_cons_of_mem _ (this.2 x hx)
        · have := sub p (List.mem_cons_of_mem _ h)
          exact ⟨by simp; omega, fun x hx => List.mem_cons_of_mem _ (this.2 x hx)⟩
      · have : p = [d] := by simpa using h
        subst this
        exact ⟨by simp, fun x hx => by simp at hx; subst hx; exact List.mem_cons_self⟩
theorem RepL.strs {K : PySem.W.Frag} {H : Hp} {F : Fz} : ∀ {xs : List V} {ds : List D} {ns : List (List Nat)}, RepL K H F xs ds → strsD ds = some ns → xs = (ns.map sOf).map V.str ∧ ∀ s ∈ ns, StrOk s
  | _, _, _, .nil, h => by cases h; exact ⟨rfl, fun _ h => by cases h⟩
  | _, d :: ds, _, .cons r t, h => by
    cases d <;> simp [Mini.strsD] at h
    obtain ⟨ms, h1, rfl⟩ := h
    obtain ⟨e1, e2⟩ := RepL.strs t h1
    obtain ⟨e3, e4⟩ := (r.rv (n := 0)).str
    rw [e3, e1]
    refine ⟨rfl, fun s hs => ?_⟩
    rcases List.mem_cons.mp hs with rfl | hs
    · exact e4
    · exact e2 s hs
theorem repL_strs {K : PySem.W.Frag} {H : Hp} {F : Fz} : ∀ {l : List (List Nat)}, (∀ s ∈ l, StrOk s) → RepL K H F ((l.map sOf).map V.str) (l.map D.str)
  | [], _ => .nil
  | s :: l, h => .cons (.str s (h s List.mem_cons_self)) (repL_strs fun x hx => h x (List.mem_cons_of_mem _ hx))
theorem joinL_len (sep : List Nat) : ∀ l : List (List Nat), (joinL sep l).length ≤ (l.map (·.length)).sum + l.length * sep.length
  | [] => by simp [joinL]
  | [x] => by simp [joinL]
  | x :: y :: r => by
    have ih := joinL_len sep (y :: r)
    simp only [joinL, List.length_append, List.map_cons, List.sum_cons, List.length_cons, Nat.succ_mul] at ih ⊢
    omega
theorem joinL_mem {sep : List Nat} {c : Nat} : ∀ {l : List (List Nat)}, c ∈ joinL sep l → c ∈ sep ∨ ∃ x ∈ l, c ∈ x
  | [], h => by cases h
  | [x], h => .inr ⟨x, List.mem_cons_self, h⟩
  | x :: y :: r, h => by
    have h' : c ∈ x ++ sep ++ joinL sep (y :: r) := h
    rcases List.mem_append.mp h' with h' | h'
    · rcases List.mem_append.mp h' with h' | h'
      · exact .inr ⟨x, List.mem_cons_self, h'⟩
      · exact .inl h'
    · rcases joinL_mem h' with h' | ⟨z, hz, h'⟩
      · exact .inl h'
      · exact .inr ⟨z, List.mem_cons_of_mem _ hz, h'⟩
def rMt (K : PySem.W.Frag) (m : Mt) : V → List V → Hp → VK → Prop := fun x vs H Q => ∃ F d es o, RV K H F 0 x d ∧ RVs K H F 0 vs es ∧ (∀ a, F a → H a ≠ none) ∧ methF m d es = some o ∧ ∀ H' F' v, Ext H F H' F' (fun _ => False) → NewOk K H H' F' v o → Q v H'
theorem mt_all (m : Mt) : MtR X (mtId m) (rMt X.K m) := by
  cases m with
  | scount =>
    intro pins s σ H x xs v us Q I rx rxs h
    obtain ⟨F, d, es, o, rd, rs, t, e, q⟩ := h
    change methSCount d es = some o at e
    unfold methSCount at e
    split at e <;> first
      | (cases e; done)
      | skip
    rename_i ys c
    cases e
    obtain ⟨rfl, ok⟩ := rd.str
    cases rs with | cons r2 r3 =>
    cases r3
    obtain ⟨rfl, _⟩ := r2.str
    refine mt_count pins s σ H _ _ v us Q I rx rxs ⟨sOf ys, sOf [c], rfl, rfl, ?_⟩
    rw [count_sOf]
    exact q_sc t q (.int _)
  | sfind =>
    intro pins s σ H x xs v us Q I rx rxs h
    obtain ⟨F, d, es, o, rd, rs, t, e, q⟩ := h
    change methSFind d es = some o at e
    unfold methSFind at e
    split at e <;> first
      | (cases e; done)
      | skip
    rename_i ys c
    cases e
    obtain ⟨rfl, ok⟩ := rd.str
    cases rs with | cons r2 r3 =>
    cases r3
    obtain ⟨rfl, _⟩ := r2.str
    refine mt_find pins s σ H _ _ v us Q I rx rxs ⟨sOf ys, sOf [c], rfl, rfl, ?_⟩
    rw [find_sOf]
    exact q_sc t q (.int _)
  | sindex =>
    intro pins s σ H x xs v us Q I rx rxs h
    obtain ⟨F, d, es, o, rd, rs, t, e, q⟩ := h
    change methSIndex d es = some o at e
    unfold methSIndex at e
    split at e <;> first
      | (cases e; done)
      | skip
    rename_i ys c
    split at e
    · rename_i j hj
      cases e
      obtain ⟨rfl, ok⟩ := rd.str
      cases rs with | cons r2 r3 =>
      cases r3
      obtain ⟨rfl, _⟩ := r2.str
      obtain ⟨r, hr⟩ := index_sOf hj
      exact mt_sindex pins s σ H _ _ v us Q I rx rxs ⟨sOf ys, sOf [c], j, r, rfl, rfl, hr, q_sc t q (.int _)⟩
    · cases e
  | lcount =>
    intro pins s σ H x xs v us Q I rx rxs h
    obtain ⟨F, d, es, o, rd, rs, t, e, q⟩ := h
    change methLCount d es = some o at e
    unfold methLCount at e
    split at e <;> first
      | (cases e; done)
      | skip
    rename_i ys y
    split at e
    · rename_i hf
      rw [Bool.and_eq_true] at hf
      cases e
      obtain ⟨a, zs, rfl, h1, r1⟩ := rd.lst
      cases rs with | cons r2 r3 =>
      cases r3
      refine mt_lcountV pins s σ H _ _ v us Q I rx rxs ⟨a, zs, _, rfl, rfl, h1, r2.flat hf.1, r1.flat hf.2, ?_⟩
      rw [RepL.countV r2 hf.1 r1 hf.2]
      exact q_sc t q (.int _)
    · cases e
  | split =>
    intro pins s σ H x xs v us Q I rx rxs h
    obtain ⟨F, d, es, o, rd, rs, t, e, q⟩ := h
    change methSplit d es = some o at e
    unfold methSplit at e
    split at e <;> first
      | (cases e; done)
      | skip
    rename_i ys c
    split at e
    · rename_i hf
      cases e
      obtain ⟨rfl, ok⟩ := rd.str
      cases rs with | cons r2 r3 =>
      cases r3
      obtain ⟨rfl, _⟩ := r2.str
      refine mt_split pins s σ H _ _ v us Q I rx rxs ⟨sOf ys, sOf [c], rfl, rfl, rfl, by rw [sOf_length, ← SZ_eq]; exact hf, ?_⟩
      rw [split_eq]
      intro p hp
      refine q_ls t q (repL_strs fun z hz => ?_) hp
      obtain ⟨h1, h2⟩ := splitL_mem hz
      exact ⟨Nat.le_trans h1 ok.1, fun d hd => ok.2 d (h2 d hd)⟩
    · cases e
  | join =>
    intro pins s σ H x xs v us Q I rx rxs h
    obtain ⟨F, d, es, o, rd, rs, t, e, q⟩ := h
    change methJoin d es = some o at e
    unfold methJoin at e
    split at e <;> first
      | (cases e; done)
      | skip
    rename_i ys zs
    split at e
    · rename_i ws hw
      split at e
      · rename_i hf
        cases e
        obtain ⟨rfl, ok⟩ := rd.str
        cases rs with | cons r2 r3 =>
        cases r3
        obtain ⟨a, vs, rfl, h1, r1⟩ := r2.lst
        obtain ⟨rfl, hok⟩ := r1.strs hw
        refine mt_join pins s σ H _ _ v us Q I rx rxs ⟨sOf ys, a, ws.map sOf, rfl, rfl, .inl h1, ?_, ?_⟩
        · rw [List.map_map, List.length_map, sOf_length]
          have : ((fun x : Str => x.length) ∘ sOf) = fun x : List Nat => x.length := by funext z; exact sOf_length z
          rw [this]
          exact hf
        · have : Txt.join (sOf ys) (ws.map sOf) = sOf (joinL ys ws) := by
            show Builtin.Str.glued _ _ = _
            rw [PySem.StrLaws.glued_eq_join]
            exact joinS_eq _ _ rfl ws
          rw [this]
          refine q_sc t q (.str _ ⟨Nat.le_trans (joinL_len ys ws) hf, fun c hc => ?_⟩)
          rcases joinL_mem hc with h | ⟨z, hz, h⟩
          · exact ok.2 c h
          · exact (hok z hz).2 c h
      · cases e
    · cases e
  | index =>
    intro pins s σ H x xs v us Q I rx rxs h
    obtain ⟨F, d, es, o, rd, rs, t, e, q⟩ := h
    change methIndex d es = some o at e
    unfold methIndex at e
    split at e <;> first
      | (cases e; done)
      | skip
    rename_i ys y
    split at e
    · rename_i hf
      rw [Bool.and_eq_true] at hf
      split at e
      · rename_i j hj
        cases e
        obtain ⟨a, zs, rfl, h1, r1⟩ := rd.lst
        cases rs with | cons r2 r3 =>
        cases r3
        obtain ⟨z, k1, k2, k3⟩ := findIdx_rep r2 hf.1 r1 hf.2 hj
        exact mt_index pins s σ H _ _ v us Q I rx rxs ⟨a, zs, _, j, z, rfl, rfl, h1, r2.flat hf.1, r1.flat hf.2, k1, k2, k3, q_sc t q (.int _)⟩
      · cases e
    · cases e
theorem mt_slot (m : Mt) : Slot (mtT m) (mtName m) (mtId m) := by
  cases m
  · exact PySem.F.slot_list_index
  · exact PySem.F.slot_str_split
  · exact PySem.F.slot_str_join
  · exact PySem.F.slot_str_count
  · exact PySem.F.slot_str_find
  · exact PySem.F.slot_str_index
  · exact PySem.F.slot_list_count
theorem mt_type (m : Mt) : typeOf (.builtin (mtId m)) = pure (.type "method_descriptor") := by
  cases m
  · exact PySem.F.type_list_index
  · exact PySem.F.type_str_split
  · exact PySem.F.type_str_join
  · exact PySem.F.type_str_count
  · exact PySem.F.type_str_find
  · exact PySem.F.type_str_index
  · exact PySem.F.type_list_count
theorem mt_plain (m : Mt) : PlainAttrs (mtT m) := by
  cases m
  · exact PySem.F.plainAttrs_list
  · exact PySem.F.plainAttrs_str
  · exact PySem.F.plainAttrs_str
  · exact PySem.F.plainAttrs_str
  · exact PySem.F.plainAttrs_str
  · exact PySem.F.plainAttrs_str
  · exact PySem.F.plainAttrs_list
theorem recvTy_tyV {m : Mt} {d : D} {K : PySem.W.Frag} {H : Hp} {F : Fz} {v : V} (h : recvTy m (some d) = true) (r : RV K H F 0 v d) : tyV K (mtT m) v H := by
  cases m with
  | lcount =>
    cases d <;> first
      | (cases h; done)
      | (obtain ⟨a, xs, rfl, h1, _⟩ := r.lst
         exact .inl ⟨rfl, xs, h1⟩)
  | scount =>
    cases d <;> first
      | (cases h; done)
      | (obtain ⟨rfl, _⟩ := r.str
         rfl)
  | sfind =>
    cases d <;> first
      | (cases h; done)
      | (obtain ⟨rfl, _⟩ := r.str
         rfl)
  | sindex =>
    cases d <;> first
      | (cases h; done)
      | (obtain ⟨rfl, _⟩ := r.str
         rfl)
  | index =>
    cases d <;> first
      | (cases h; done)
      | (obtain ⟨a, xs, rfl, h1, _⟩ := r.lst
         exact .inl ⟨rfl, xs, h1⟩)
  | split =>
    cases d <;> first
      | (cases h; done)
      | (obtain ⟨rfl, _⟩ := r.str
         rfl)
  | join =>
    cases d <;> first
      | (cases h; done)
      | (obtain ⟨rfl, _⟩ := r.str
         rfl)
theorem snd_meth (o : XO X W c sc C cl Γ G) {m : Mt} {a : E} {es : List E} {ob y : Expr} {ap cp : Pos} (hl : (ap.endLine == cp.line) = true) (hr : recv ob = true) (ho : PE X ob (tP C cl W (evP Γ G a)))
    (hp : PEs X [y] (es.map fun x => tP C cl W (evP Γ G x))) : PE X (.Call (.Attribute ob (mtName m) ap) [y] [] cp) (tE C cl W (evE Γ G (.meth m a es))) := by
  obtain ⟨t, e0, ha, pa⟩ := hp.inv1
  refine (pe_bm (mt_plain m) (mt_slot m) (mt_type m) (mt_all m) ho (pa_cons pa pa_nil (starEach_ok ha _ _)) (recv_ok hr _ _) (few ha) hl (starEach_ok ha _ _) rfl).imp fun σ H Q hq => ?_
  obtain ⟨e, F, R, p⟩ := hq
  rw [evE_meth] at p
  refine ⟨e, F, R, Post.mono (Post.bind p) fun op e1 H1 F1 g1 R1 p1 v hv => ?_⟩
  cases hd1 : op.get e1 0 with
  | none => rw [hd1] at p1; cases m <;> exact False.elim p1
  | some d1 =>
    rw [hd1] at p1
    cases ht : recvTy m (some d1) with
    | false => rw [ht] at p1; exact False.elim p1
    | true =>
      rw [ht] at p1
      have rv1 := opd_rv R1 hv hd1
      refine ⟨by rw [o.K]; exact recvTy_tyV ht rv1, ?_⟩
      have z : seqT (es.map fun x => tP C cl W (evP Γ G x)) σ H1 (fun vs H2 => rMt X.K m v vs H2 Q) := by
        refine seqT_of es σ H1 _ ⟨e1, F1, R1, Post.mono (Post.bind p1) fun os e2 H2 F2 g2 R2 p2 vs hvs => ?_⟩
        unfold methR at p2
        split at p2
        · rename_i d ds hd hds
          split at p2
          · rename_i out hm
            rw [o.K]
            exact ⟨F2, d, ds, out, opd_rv R2 (hv.grow g2) hd, opds_rv R2 hvs hds, R2.tr, hm, fun H' F' v x n => p2 H' F' x.grow (R2.ext x) v (n.out R2 x)⟩
          · exact False.elim p2
        · exact False.elim p2
      rw [e0] at z
      exact z
end
end Mini

set_option Elab.async false
set_option linter.all false
set_option maxRecDepth 100000
/-! Mini: calls of the program's own defs. -/
namespace Mini
open PySem PySem.Spec PyProof.Rows L2
section
variable {X : Cx} {CX : CXT} {k : Nat} {f : Addr} {fd : FuncData} {ps : List Str} {sp : Sp} {E : L2.St → XK} {x : Str} {p pos : Pos} {e : Expr} {es : List Expr} {t : TA} {dvs : List V} {dus : List Value}
theorem run_fnD {pins : List (Addr × Obj)} {σ : L2.St} {H : Hp} {s : Shared} {Q : VK} {us : List Value} {vs : List V} (F : FnG X.prog X.w X.K X.mg X.base CX k f fd ps sp) (hgd : X.A.guards = some []) (hr : Room k X.A) (hb : Binds X.K fd ps dus) (hd : Vals dvs dus) (hx : PassesAt CX X σ (E σ))
    (I : Inv X pins σ H s) (r : Vals vs us) (h : sp (vs ++ dvs) H Q (E σ)) : wpAny (model X.prog X.w) X.A (call (.ref f) us) (EP X pins σ Q) X.xe s := by
  have r2 : Vals (vs ++ dvs) (us ++ dus) := r.append hd
  have hl : (us ++ dus).length = ps.length := by rw [← r2.length]; exact F.len _ _ _ _ h
  refine wpAny_call (codeAny_mono (F.run X.A X.stack s H ⟨us, []⟩ (us ++ dus) (vs ++ dvs) Q (E σ) hgd hr I.env0 (hb s us I.kIn hl) r2 h) fun r s' hq => ?_)
  cases r with
  | error e => exact hx pins H s e s' I hq
  | ok fl =>
    cases fl with
    | ret u => exact I.after hq
    | next => exact False.elim hq
    | brk => exact False.elim hq
    | cont => exact False.elim hq
theorem pe_callD (F : FnG X.prog X.w X.K X.mg X.base CX k f fd ps sp) (hgd : X.A.guards = some []) (hr : Room k X.A) (hg : Gl X x) (hm : X.mg x = some (.ref f)) (hk : PySem.W.keepIn X.K (.ref f) = true) (hb : Binds X.K fd ps dus) (hd : Vals dvs dus) (hx : ∀ σ, PassesAt CX X σ (E σ))
    (ha : PA X (e :: es) t) (hdb : (x == ("__debug__" : Str)) = false) (he : starEach (e :: es) X.env = (false, eval e X.env) :: starEach es X.env) (hpl : (backTo pos (starEach es X.env)).any (·.1) = false) :
    PE X (.Call (.Name x p) (e :: es) [] pos) (fun σ H Q => t σ H fun vs H1 => sp (vs ++ dvs) H1 Q (E σ)) := by
  refine ⟨fun pins s σ H Q I h => ?_⟩
  refine wpAny_Call_Name_kw (ld_glob I hg hm ?_ hdb)
  refine PySem.W.callWith_K (h₀ := X.base) I.ok.mod.kin hk (thn (ha.run pos pins s σ H _ I h) fun us s1 ⟨vs, H1, I1, r, q⟩ => ⟨I1.kIn, ?_⟩) he hpl
  exact run_fnD F hgd hr hb hd (hx σ) I1 r q
end
section
variable {C : Bx} {e e' : Ev} {σ : L2.St} {H H' : Hp} {F F' : Fz}
theorem OpsOk.append : ∀ {vs ws : List V} {os ps : List Opd}, OpsOk C σ H F vs os → OpsOk C σ H F ws ps → OpsOk C σ H F (vs ++ ws) (os ++ ps)
  | _, _, _, _, .nil, h => h
  | _, _, _, _, .cons r t, h => .cons r (OpsOk.append t h)
theorem OpsOk.dflt : ∀ {vs : List V} {ds : List D}, RepL C.K H F vs ds → OpsOk C σ H F vs (ds.map .dv)
  | _, _, .nil => .nil
  | _, _, .cons r t => .cons (o := .dv _) r (OpsOk.dflt t)
theorem lst_of_rv {v : V} {ds : List D} (h : RV C.K H F 1 v (.lst ds)) : ∃ a, v = .ref a ∧ TL C.K H F a (.lst ds) := by
  obtain ⟨a, xs, e1, h1, h2⟩ := RV.lst1 h
  exact ⟨a, e1, xs, ds, rfl, h1, h2⟩
theorem argsOk_of (R : Rel C e σ H F) : ∀ {ms : List Mode} {vs : List V} {os : List Opd} {ds : List D}, OpsOk C σ H F vs os → argsGet e ms os = some ds → ArgsOk C.K H F C.er ms vs ds
  | [], _, _, ds, .nil, h => by cases h; exact .nil
  | [], _, _, ds, .cons _ _, h => by cases h
  | _ :: _, _, _, ds, .nil, h => by cases h
  | m :: ms, _, _, ds, .cons (o := o) (os := os) r t, h => by
    unfold argsGet at h
    split at h
    · rename_i d ds' h1 h2
      cases h
      have ih := argsOk_of R t h2
      cases m with
      | val =>
        cases o with
        | sl i => cases h1
        | dv d' => cases h1; exact .val r ih
      | ro =>
        simp only [argGet] at h1
        split at h1
        · rename_i xs hg
          cases h1
          obtain ⟨a, rfl, tl⟩ := lst_of_rv (opd_rv R r hg)
          exact .ro tl ih
        · cases h1
      | st =>
        cases o with
        | dv d' => cases h1
        | sl i =>
          simp only [argGet] at h1
          have s := R.slot i
          have r' : σ.getD i none = some _ := r
          cases q : e.at i <;> rw [q] at h1 s <;> first
            | (cases h1; done)
            | skip
          cases h1
          obtain ⟨a, e1, t1⟩ := s
          rw [r'] at e1; cases e1
          exact .st (t1.stl R) ih
      | bor =>
        cases o with
        | dv d' => cases h1
        | sl i =>
          have hg : getOwn e i = some d := h1
          obtain ⟨a, e1, tl, hf, _, _⟩ := mut_inv R hg
          have r' : σ.getD i none = some _ := r
          rw [r'] at e1; cases e1
          exact .bor tl hf ih
      | err =>
        cases o with
        | dv d' => cases h1
        | sl i =>
          simp only [argGet] at h1
          have s := R.slot i
          have r' : σ.getD i none = some _ := r
          cases q : e.at i <;> rw [q] at h1 s <;> first
            | (cases h1; done)
            | skip
          cases h1
          obtain ⟨a, e1, t1⟩ := s
          rw [r'] at e1; cases e1
          exact .err t1 ih
    · cases h
/-- the places and the addresses of what is lent to be changed -/
inductive Bs (σ : L2.St) (e : Ev) : List Nat → List Addr → Prop
  | nil : Bs σ e [] []
  | cons {i : Nat} {a : Addr} {is as} : σ.getD i none = some (.ref a) → (e.at i).mut = true → Bs σ e is as → Bs σ e (i :: is) (a :: as)
theorem getOwn_mut {e : Ev} {i : Nat} {d : D} (h : getOwn e i = some d) : (e.at i).mut = true := by
  unfold getOwn at h
  cases q : e.at i <;> rw [q] at h <;> first | (cases h; done) | rfl
theorem bs_of (R : Rel C e σ H F) : ∀ {ms : List Mode} {vs : List V} {os : List Opd} {ds : List D}, OpsOk C σ H F vs os → argsGet e ms os = some ds → Bs σ e (bors ms os) (borA ms vs)
  | [], _, _, ds, .nil, h => .nil
  | [], _, _, ds, .cons _ _, h => by cases h
  | _ :: _, _, _, ds, .nil, h => by cases h
  | m :: ms, _, _, ds, .cons (o := o) (os := os) r t, h => by
    unfold argsGet at h
    split at h
    · rename_i d ds' h1 h2
      have ih := bs_of R t h2
      cases m with
      | bor =>
        cases o with
        | dv d' => cases h1
        | sl i =>
          have hg : getOwn e i = some d := h1
          obtain ⟨a, e1, tl, hf, _, _⟩ := mut_inv R hg
          have r' : σ.getD i none = some _ := r
          rw [r'] at e1; cases e1
          exact .cons r' (getOwn_mut hg) ih
      | val => cases o <;> exact ih
      | ro => cases o <;> exact ih
      | st => cases o <;> exact ih
      | err => cases o <;> exact ih
    · cases h
theorem Bs.mem {is : List Nat} {as : List Addr} (b : Bs σ e is as) {a : Addr} (h : a ∈ as) : ∃ i ∈ is, σ.getD i none = some (.ref a) ∧ (e.at i).mut = true := by
  induction b with
  | nil => cases h
  | cons h1 h2 _ ih =>
    rcases List.mem_cons.mp h with rfl | h
    · exact ⟨_, List.mem_cons_self, h1, h2⟩
    · obtain ⟨i, hi, q⟩ := ih h
      exact ⟨i, List.mem_cons_of_mem _ hi, q⟩
/-- a lent list stands at a lent place, or is frozen -/
theorem lstA_of (R : Rel C e σ H F) : ∀ {ms : List Mode} {vs : List V} {os : List Opd} {ds : List D}, OpsOk C σ H F vs os → argsGet e ms os = some ds → ∀ a ∈ lstA ms vs, (∃ j ∈ lsl ms os, σ.getD j none = some (.ref a) ∧ (e.at j).listy = true) ∨ F a
  | [], _, _, ds, .nil, h => fun a ha => by cases ha
  | [], _, _, ds, .cons _ _, h => by cases h
  | _ :: _, _, _, ds, .nil, h => by cases h
  | m :: ms, _, _, ds, .cons (v := v) (o := o) (os := os) r t, h => by
    unfold argsGet at h
    split at h
    · rename_i d ds' h1 h2
      have ih := lstA_of R t h2
      cases m with
      | bor =>
        cases o with
        | dv d' => cases h1
        | sl i =>
          have hg : getOwn e i = some d := h1
          obtain ⟨a, e1, tl, hf, _, _⟩ := mut_inv R hg
          have r' : σ.getD i none = some v := r
          rw [r'] at e1; cases e1
          intro b hb
          rcases List.mem_cons.mp (show b ∈ a :: lstA ms _ from hb) with rfl | hb
          · refine .inl ⟨i, List.mem_cons_self, r', ?_⟩
            have := getOwn_mut hg
            cases q : e.at i <;> rw [q] at this <;> first | (cases this; done) | rfl
          · rcases ih b hb with ⟨j, hj, q⟩ | q
            · exact .inl ⟨j, List.mem_cons_of_mem _ hj, q⟩
            · exact .inr q
      | ro =>
        simp only [argGet] at h1
        split at h1
        · rename_i xs hg
          obtain ⟨a, rfl, tl⟩ := lst_of_rv (opd_rv R r hg)
          intro b hb
          rcases List.mem_cons.mp (show b ∈ a :: lstA ms _ from hb) with rfl | hb
          · cases o with
            | dv d' =>
              have rr : Rep C.K H F (.ref b) d' := r
              have : d' = .lst xs := by simpa [Opd.get] using hg
              subst this
              obtain ⟨_, _, e1, f, _, _⟩ := rr.lst_inv
              cases e1; exact .inr f
            | sl i =>
              refine .inl ⟨i, List.mem_cons_self, r, ?_⟩
              unfold Opd.get at hg
              cases q : e.at i <;> simp [q] at hg <;> rfl
          · rcases ih b hb with ⟨j, hj, q⟩ | q
            · refine .inl ⟨j, ?_, q⟩
              cases o with
              | dv _ => exact hj
              | sl _ => exact List.mem_cons_of_mem _ hj
            · exact .inr q
        · cases h1
      | val => cases o <;> exact ih
      | st => cases o <;> exact ih
      | err => cases o <;> exact ih
    · cases h
theorem sep_of (R : Rel C e σ H F) : ∀ {ms : List Mode} {vs : List V} {os : List Opd} {ds : List D}, OpsOk C σ H F vs os → argsGet e ms os = some ds → apart ms os = true → sepA ms vs
  | [], _, _, ds, .nil, h, _ => trivial
  | [], _, _, ds, .cons _ _, h, _ => by cases h
  | _ :: _, _, _, ds, .nil, h, _ => by cases h
  | m :: ms, _, _, ds, .cons (v := v) (o := o) (os := os) r t, h, ha => by
    unfold argsGet at h
    split at h
    · rename_i d ds' h1 h2
      cases m with
      | bor =>
        cases o with
        | dv d' => cases h1
        | sl i =>
          simp only [apart, Bool.and_eq_true, Bool.not_eq_true', List.contains_eq_mem, decide_eq_false_iff_not] at ha
          have hg : getOwn e i = some d := h1
          obtain ⟨a, e1, tl, hf, hm, _⟩ := mut_inv R hg
          have r' : σ.getD i none = some v := r
          rw [r'] at e1; cases e1
          refine ⟨fun z => ?_, sep_of R t h2 ha.2⟩
          rcases lstA_of R t h2 a z with ⟨j, hj, q1, q2⟩ | q
          · by_cases hij : i = j
            · subst hij; exact ha.1 hj
            · exact R.apart i j a hij hm q2 r' q1
          · exact hf q
      | ro =>
        simp only [argGet] at h1
        split at h1
        · rename_i xs hg
          obtain ⟨a, rfl, tl⟩ := lst_of_rv (opd_rv R r hg)
          cases o with
          | dv d' =>
            have rr : Rep C.K H F (.ref a) d' := r
            have : d' = .lst xs := by simpa [Opd.get] using hg
            subst this
            obtain ⟨_, _, e1, f, _, _⟩ := rr.lst_inv
            cases e1
            refine ⟨fun z => ?_, sep_of R t h2 ha⟩
            obtain ⟨j, hj, q1, q2⟩ := (bs_of R t h2).mem z
            have sj := R.slot j
            rw [q1] at sj
            cases q : e.at j <;> rw [q] at sj q2 <;> first
              | (cases q2; done)
              | (obtain ⟨b, e1, _, hf, _⟩ := sj; cases e1; exact hf f)
          | sl i =>
            simp only [apart, Bool.and_eq_true, Bool.not_eq_true', List.contains_eq_mem, decide_eq_false_iff_not] at ha
            have hl : (e.at i).listy = true := by
              unfold Opd.get at hg
              cases q : e.at i <;> simp [q] at hg <;> rfl
            refine ⟨fun z => ?_, sep_of R t h2 ha.2⟩
            obtain ⟨j, hj, q1, q2⟩ := (bs_of R t h2).mem z
            by_cases hij : j = i
            · subst hij; exact ha.1 hj
            · exact R.apart j i a hij q2 hl q1 r
        · cases h1
      | val =>
        have ha' : apart ms os = true := by cases o <;> exact ha
        have q := sep_of R t h2 ha'
        cases o <;> exact q
      | st =>
        have ha' : apart ms os = true := by cases o <;> exact ha
        have q := sep_of R t h2 ha'
        cases o <;> exact q
      | err =>
        have ha' : apart ms os = true := by cases o <;> exact ha
        have q := sep_of R t h2 ha'
        cases o <;> exact q
    · cases h
/-! ### behind a call -/
def Weak (C : Bx) (F : Fz) (i : Nat) (o : Option V) : Sl → Prop
  | .own _ => ∃ a, o = some (.ref a) ∧ ¬ F a ∧ C.H0 a = none
  | .bor _ => ∃ a, o = some (.ref a) ∧ ¬ F a ∧ (i, a) ∈ C.B
  | _ => False
structure RelX (C : Bx) (skip : List Nat) (e : Ev) (σ : L2.St) (H : Hp) (F : Fz) : Prop where
  len : e.length = σ.length
  fz : ∀ a, C.F0 a → F a
  fz' : ∀ a, F a → C.F0 a ∨ C.H0 a = none
  tr : ∀ a, F a → H a ≠ none
  keep : ∀ a o, C.H0 a = some o → a ∉ C.B.map (·.2) → H a = some o
  lent : ∀ p ∈ C.B, H p.2 ≠ none ∧ (∃ d, e.at p.1 = .bor d)
  slot : ∀ i, i ∉ skip → SlotOk C H F i (σ.getD i none) (e.at i)
  weak : ∀ i, i ∈ skip → Weak C F i (σ.getD i none) (e.at i)
  apart : ∀ i j a, i ≠ j → (e.at i).mut = true → (e.at j).listy = true → σ.getD i none = some (.ref a) → σ.getD j none = some (.ref a) → False
  pin : ∀ p ∈ C.T, H p.1 = some p.2 ∧ ¬ F p.1 ∧ ∀ j, (e.at j).listy = true → σ.getD j none ≠ some (.ref p.1)
theorem RelX.rel (R : RelX C [] e σ H F) : Rel C e σ H F := ⟨R.len, R.fz, R.fz', R.tr, R.keep, R.lent, fun i => R.slot i (by simp), R.apart, R.pin⟩
theorem putBack_of : ∀ {is : List Nat} {as : List Addr} {ds : List D} {e e2 : Ev}, RelX C is e σ H F → Bs σ e is as → BackOk C.K H F as ds → putBack e is ds = some e2 → Rel C e2 σ H F ∧ ∀ j, (e2.at j).listy = (e.at j).listy
  | [], _, _, e, e2, R, .nil, .nil, h => by cases h; exact ⟨R.rel, fun _ => rfl⟩
  | i :: is, _, _, e, e2, R, .cons (a := a) (as := as) h1 h2 t, .cons (d := d) (ds := ds) tl bt, h => by
    have w := R.weak i List.mem_cons_self
    have hi : i < e.length := Ev.at_lt fun z => by rw [z] at h2; cases h2
    have go : ∀ (s : Sl), s.mut = true → s.listy = true → (∀ d, e.at i = .bor d → ∃ d', s = .bor d') → SlotOk C H F i (σ.getD i none) s → putBack (e.set i s) is ds = some e2 → Rel C e2 σ H F ∧ ∀ j, (e2.at j).listy = (e.at j).listy := by
      intro s hm hl hb hs hp
      have at' : ∀ j, Ev.at (e.set i s) j = if i = j then s else e.at j := fun j => by
        rw [Ev.at_set]
        by_cases z : i = j
        · rw [if_pos ⟨z, hi⟩, if_pos z]
        · rw [if_neg (fun q => z q.1), if_neg z]
      have mt : ∀ j, (Ev.at (e.set i s) j).mut = (e.at j).mut := fun j => by
        rw [at']; split
        · rename_i z; subst z; rw [hm, h2]
        · rfl
      have ls : ∀ j, (Ev.at (e.set i s) j).listy = (e.at j).listy := fun j => by
        rw [at']; split
        · rename_i z; subst z; rw [hl]
          cases q : e.at i <;> rw [q] at h2 <;> first | (cases h2; done) | rfl
        · rfl
      have R2 : RelX C is (e.set i s) σ H F := {
        len := by rw [List.length_set]; exact R.len
        fz := R.fz
        fz' := R.fz'
        tr := R.tr
        keep := R.keep
        lent := fun p hp => ⟨(R.lent p hp).1, by
          obtain ⟨d0, hd⟩ := (R.lent p hp).2
          rw [at']
          split
          · rename_i z; rw [← z] at hd; obtain ⟨d', z'⟩ := hb d0 hd; exact ⟨d', z'⟩
          · exact ⟨d0, hd⟩⟩
        slot := fun j hj => by
          rw [at']
          split
          · rename_i z; subst z; exact hs
          · rename_i z
            exact R.slot j (fun q => (List.mem_cons.mp q).elim (fun q => z q.symm) hj)
        weak := fun j hj => by
          rw [at']
          split
          · rename_i z; subst z
            obtain ⟨a, e1, _, hf, hx⟩ := (show ∃ a, σ.getD i none = some (.ref a) ∧ TL C.K H F a d ∧ ¬ F a ∧ Weak C F i (σ.getD i none) s from by
              cases s <;> first
                | (cases hm; done)
                | skip
              · obtain ⟨b, e1, t1, hf, h0⟩ := hs
                have : b = a := by rw [h1] at e1; cases e1; rfl
                subst this
                exact ⟨b, e1, tl, hf, b, e1, hf, h0⟩
              · obtain ⟨b, e1, t1, hf, h0⟩ := hs
                have : b = a := by rw [h1] at e1; cases e1; rfl
                subst this
                exact ⟨b, e1, tl, hf, b, e1, hf, h0⟩)
            exact hx
          · exact R.weak j (List.mem_cons_of_mem _ hj)
        apart := fun j k b hjk q1 q2 => by
          rw [mt] at q1
          rw [ls] at q2
          exact R.apart j k b hjk q1 q2
        pin := fun p hp => ⟨(R.pin p hp).1, (R.pin p hp).2.1, fun j hj => (R.pin p hp).2.2 j (by rw [← ls j]; exact hj)⟩ }
      have B2 : Bs σ (e.set i s) is as := by
        have gen : ∀ {is as}, Bs σ e is as → Bs σ (e.set i s) is as := fun b => by
          induction b with
          | nil => exact .nil
          | cons q1 q2 _ ih => exact .cons q1 (by rw [mt]; exact q2) ih
        exact gen t
      obtain ⟨r1, r2⟩ := putBack_of R2 B2 bt hp
      exact ⟨r1, fun j => (r2 j).trans (ls j)⟩
    unfold putBack at h
    cases q : e.at i <;> rw [q] at h w <;> first
      | (cases h; done)
      | skip
    · obtain ⟨b, e1, hf, h0⟩ := w
      have : b = a := by rw [h1] at e1; cases e1; rfl
      subst this
      exact go (.own d) rfl rfl (fun d0 z => by rw [q] at z; cases z) ⟨b, e1, tl, hf, h0⟩ h
    · obtain ⟨b, e1, hf, h0⟩ := w
      have : b = a := by rw [h1] at e1; cases e1; rfl
      subst this
      exact go (.bor d) rfl rfl (fun d0 z => ⟨_, rfl⟩) ⟨b, e1, tl, hf, h0⟩ h
theorem BackOk.mem {K : PySem.W.Frag} {as : List Addr} {ds : List D} (b : BackOk K H F as ds) {a : Addr} (h : a ∈ as) : ∃ d, TL K H F a d := by
  induction b with
  | nil => cases h
  | cons t _ ih =>
    rcases List.mem_cons.mp h with rfl | h
    · exact ⟨_, t⟩
    · exact ih h
/-- the state behind a call, ahead of the lent lists' new contents -/
theorem relX_of (R : Rel C e σ H F) {is : List Nat} {as : List Addr} {ds : List D} (b : Bs σ e is as) (x : CallExt H F H' F' (· ∈ as)) (bk : BackOk C.K H' F' as ds) : Grow H F H' F' ∧ RelX C is e σ H' F' := by
  have nf : ∀ a ∈ as, ¬ F a := fun a ha f => by
    obtain ⟨i, _, h1, h2⟩ := b.mem ha
    have s := R.slot i
    rw [h1] at s
    cases q : e.at i <;> rw [q] at s h2 <;> first
      | (cases h2; done)
      | (obtain ⟨_, e1, _, hf, _⟩ := s; cases e1; exact hf f)
  have g : Grow H F H' F' := ⟨x.fz, fun a o f h => x.kp a o h fun z => nf a z f⟩
  have side : ∀ a ∈ as, H a ≠ none ∧ (C.H0 a = none ∨ a ∈ C.B.map (·.2)) ∧ ∃ xs, H a = some (.lst xs) := fun a ha => by
    obtain ⟨i, _, h1, h2⟩ := b.mem ha
    have s := R.slot i
    rw [h1] at s
    cases q : e.at i <;> rw [q] at s h2 <;> first
      | (cases h2; done)
      | skip
    · obtain ⟨_, e1, ⟨xs, _, _, t, _⟩, _, h0⟩ := s; cases e1
      exact ⟨by rw [t]; simp, .inl h0, xs, t⟩
    · obtain ⟨_, e1, ⟨xs, _, _, t, _⟩, _, h0⟩ := s; cases e1
      exact ⟨by rw [t]; simp, .inr (List.mem_map.mpr ⟨_, h0, rfl⟩), xs, t⟩
  have nf' : ∀ a, ¬ F a → H a ≠ none → ¬ F' a := fun a h1 h2 z => by
    rcases x.fz' a z with z | z
    · exact h1 z
    · exact h2 z
  have tl : ∀ i a d, i ∉ is → σ.getD i none = some (.ref a) → (e.at i).listy = true → TL C.K H F a d → TL C.K H' F' a d := fun i a d hi h1 h2 ⟨xs, es, e1, k1, k2⟩ => by
    refine ⟨xs, es, e1, x.kp a _ k1 fun ha => ?_, k2.grow g⟩
    obtain ⟨j, hj, q1, q2⟩ := b.mem ha
    exact R.apart j i a (fun z => hi (z ▸ hj)) q2 h2 q1 h1
  refine ⟨g, ⟨R.len, fun a h => x.fz a (R.fz a h), fun a h => ?_, x.tr, fun a o h hb => ?_, fun p hp => ⟨?_, (R.lent p hp).2⟩, fun i hi => ?_, fun i hi => ?_, R.apart, fun p hp => ?_⟩⟩
  · rcases x.fz' a h with h | h
    · exact R.fz' a h
    · exact .inr (R.h0 h)
  · refine x.kp a o (R.keep a o h hb) fun ha => ?_
    rcases (side a ha).2.1 with z | z
    · rw [z] at h; cases h
    · exact hb z
  · by_cases ha : p.2 ∈ as
    · obtain ⟨d, xs, _, _, t, _⟩ := bk.mem ha
      rw [t]; simp
    · intro z
      cases q : H p.2 with
      | none => exact (R.lent p hp).1 q
      | some o => rw [x.kp _ o q ha] at z; cases z
  · have s := R.slot i
    have l := tl i
    cases q : e.at i with
    | no => trivial
    | val d => rw [q] at s; obtain ⟨v, e1, r⟩ := s; exact ⟨v, e1, r.grow g⟩
    | own d =>
      rw [q] at s l; obtain ⟨a, e1, t, hf, h0⟩ := s
      exact ⟨a, e1, l a d hi e1 rfl t, nf' a hf (by obtain ⟨_, _, _, t, _⟩ := t; rw [t]; simp), h0⟩
    | bor d =>
      rw [q] at s l; obtain ⟨a, e1, t, hf, h0⟩ := s
      exact ⟨a, e1, l a d hi e1 rfl t, nf' a hf (by obtain ⟨_, _, _, t, _⟩ := t; rw [t]; simp), h0⟩
    | ro d =>
      rw [q] at s; obtain ⟨a, e1, xs, es, e2, k1, k3, k2⟩ := s
      exact ⟨a, e1, xs, es, e2, k1, k3, k2.grow g⟩
    | st d =>
      rw [q] at s; obtain ⟨a, e1, xs, es, e2, k1, k2⟩ := s
      exact ⟨a, e1, xs, es, e2, k1, k2.grow g⟩
    | err y => rw [q] at s; exact s
  · -- a lent place
    have gen : ∀ {is as}, Bs σ e is as → i ∈ is → (e.at i).mut = true := fun b => by
      induction b with
      | nil => intro h; cases h
      | cons q1 q2 _ ih =>
        intro h
        rcases List.mem_cons.mp h with rfl | h
        · exact q2
        · exact ih h
    have hm := gen b hi
    have s := R.slot i
    cases q : e.at i <;> rw [q] at s hm <;> first
      | (cases hm; done)
      | (obtain ⟨a, e1, t, hf, h0⟩ := s
         exact ⟨a, e1, nf' a hf (by obtain ⟨_, _, _, t, _⟩ := t; rw [t]; simp), h0⟩)
  · obtain ⟨p1, p2, p3⟩ := R.pin p hp
    refine ⟨x.kp _ _ p1 fun ha => ?_, nf' _ p2 (by rw [p1]; simp), p3⟩
    obtain ⟨i, _, q1, q2⟩ := b.mem ha
    exact p3 i (by cases q : e.at i <;> rw [q] at q2 <;> first | (cases q2; done) | rfl) q1
end
section
variable {X : Cx} {W : WX} {c : Ck} {sc : Scope} {C : Bx} {cl : Cl} {Γ : List Fn} {G : List D} {x : Expr}
theorem callR_of {fn : Fn} {dvs : List V} {σ : L2.St} {H1 : Hp} {F1 : Fz} {Q : VK} {e1 : Ev} {vs : List V} {os : List Opd} (R1 : Rel C e1 σ H1 F1) (hvs : OpsOk C σ H1 F1 vs os) (hd : ∀ H F, RepL C.K H F dvs fn.dflt)
    (p1 : Post C cl W σ H1 F1 (callR (some fn) os e1) (fun o e' H' F' => ∀ v, OutOk C e' σ H' F' v o → Q v H')) : spOf C.K cl fn C.er (vs ++ dvs) H1 Q (WE W σ) := by
  have hos : OpsOk C σ H1 F1 (vs ++ dvs) (os ++ fn.dflt.map .dv) := hvs.append (OpsOk.dflt (hd H1 F1))
  unfold callR at p1
  dsimp only at p1
  split at p1
  · exact False.elim p1
  · rename_i ds hds
    split at p1
    · rename_i r hap hmf
      split at p1
      · exact False.elim p1
      · rename_i e2 hpb
        have b := bs_of R1 hos hds
        refine ⟨F1, ds, r, R1.tr, argsOk_of R1 hos hds, sep_of R1 hos hds hap, hmf, fun H' F' x bk => ?_⟩
        obtain ⟨g, RX⟩ := relX_of R1 b x bk
        obtain ⟨R2, ls⟩ := putBack_of RX b bk hpb
        cases hr : r.out with
        | val d => rw [hr] at p1; exact fun v rv => p1 H' F' g R2 v rv
        | own d =>
          rw [hr] at p1
          exact fun a ha hn tl => p1 H' F' g R2 (.ref a) ⟨a, rfl, tl, hn, R1.h0 ha, fun j hj z => R1.listy (by rw [← ls j]; exact hj) z ha, fun p hp z => by rw [← z, (R1.pin p hp).1] at ha; cases ha⟩
        | exc x =>
          rw [hr] at p1
          exact fun cc dd hx => p1 H' F' g R2 cc dd hx
    · exact False.elim p1
theorem call_of {f : Nat} {fn : Fn} {es : List E} {dvs : List V} {σ : L2.St} {H : Hp} {Q : VK} (hf : Γ[f]? = some fn) (hd : ∀ H F, RepL C.K H F dvs fn.dflt) (h : tE C cl W (evE Γ G (.call f es)) σ H Q) :
    seqT (es.map fun x => tP C cl W (evP Γ G x)) σ H (fun vs H1 => spOf C.K cl fn C.er (vs ++ dvs) H1 Q (WE W σ)) := by
  obtain ⟨e, F, R, p⟩ := h
  simp only [evE, hf] at p
  exact seqT_of es σ H _ ⟨e, F, R, Post.mono (Post.bind p) fun os e1 H1 F1 g1 R1 p1 vs hvs => callR_of R1 hvs hd p1⟩
/-! a call where an exception is handled -/
theorem run_fnE {CX : CXT} {k : Nat} {f : Addr} {fd : FuncData} {ps : List Str} {sp : Option (Addr × Ex) → Sp} {E : L2.St → XK} {dvs : List V} {dus : List Value} {pins : List (Addr × Obj)} {σ : L2.St} {H : Hp} {s : Shared} {Q : VK} {us : List Value} {vs : List V} {a : Addr} {oe : Obj} {x : Ex}
    (F : FnE X.prog X.w X.K X.mg X.base CX cl k f fd ps sp) (hr : L2H.RoomH k X.A) (hi : HotI cl X.A (a, oe) x) (hm : (a, oe) ∈ X.pn) (hb : Binds X.K fd ps dus) (hd : Vals dvs dus) (hx : PassesAt CX X σ (E σ))
    (I : Inv X pins σ H s) (r : Vals vs us) (h : sp (some (a, x)) (vs ++ dvs) H Q (E σ)) : wpAny (model X.prog X.w) X.A (call (.ref f) us) (EP X pins σ Q) X.xe s := by
  have r2 : Vals (vs ++ dvs) (us ++ dus) := r.append hd
  have hl : (us ++ dus).length = ps.length := by rw [← r2.length]; exact F.len _ _ _ _ _ h
  obtain ⟨q1, q2, q3, q4, q5⟩ := I.pin (a, oe) (List.mem_append_left _ hm)
  have pk : L2H.PinOk X.stack H s (a, oe) := ⟨q1, q2, fun z => by
    rcases List.mem_cons.mp (I.stkSub a z) with z | z
    · exact q3 z
    · exact q4 z, q5⟩
  refine wpAny_call (codeAny_mono (F.run X.A X.stack s H ⟨us, []⟩ (us ++ dus) (vs ++ dvs) Q (E σ) (a, oe) x hr hi pk I.env0 (hb s us I.kIn hl) r2 h) fun r s' hq => ?_)
  match r, hq with
  | .error e, hq => exact hx pins H s e s' I hq
  | .ok (.ret u), hq => exact I.after hq
theorem pe_callE {CX : CXT} {k : Nat} {f : Addr} {fd : FuncData} {ps : List Str} {sp : Option (Addr × Ex) → Sp} {E : L2.St → XK} {y : Str} {p pos : Pos} {e : Expr} {es : List Expr} {t : TA} {dvs : List V} {dus : List Value} {a : Addr} {oe : Obj} {x : Ex}
    (F : FnE X.prog X.w X.K X.mg X.base CX cl k f fd ps sp) (hr : L2H.RoomH k X.A) (hi : HotI cl X.A (a, oe) x) (hpn : (a, oe) ∈ X.pn) (hg : Gl X y) (hm : X.mg y = some (.ref f)) (hk : PySem.W.keepIn X.K (.ref f) = true) (hb : Binds X.K fd ps dus) (hd : Vals dvs dus) (hx : ∀ σ, PassesAt CX X σ (E σ))
    (ha : PA X (e :: es) t) (hdb : (y == ("__debug__" : Str)) = false) (he : starEach (e :: es) X.env = (false, eval e X.env) :: starEach es X.env) (hpl : (backTo pos (starEach es X.env)).any (·.1) = false) :
    PE X (.Call (.Name y p) (e :: es) [] pos) (fun σ H Q => t σ H fun vs H1 => sp (some (a, x)) (vs ++ dvs) H1 Q (E σ)) := by
  refine ⟨fun pins s σ H Q I h => ?_⟩
  refine wpAny_Call_Name_kw (ld_glob I hg hm (PySem.W.callWith_K (h₀ := X.base) I.ok.mod.kin hk (thn (ha.run pos pins s σ H _ I h) fun us s1 ⟨vs, H1, I1, r, q⟩ => ⟨I1.kIn, ?_⟩) he hpl) hdb)
  exact run_fnE F hr hi hpn hb hd (hx σ) I1 r q
theorem snd_call (o : XO X W c sc C cl Γ G) {f : Nat} {es : List E} {y : Str} {a : Expr} {as : List Expr} {p pos : Pos} (hg : glb sc y = true) (hn : nodebug y = true) (hf : c.fns[f]? = some y) (hs : f < c.self) (hh : (c.hots.contains f == c.hot) = true)
    (hp : PEs X (a :: as) (es.map fun x => tP C cl W (evP Γ G x))) : PE X (.Call (.Name y p) (a :: as) [] pos) (tE C cl W (evE Γ G (.call f es))) := by
  obtain ⟨fn, hΓ⟩ := o.fnl f y hf
  have hh' : c.hots.contains f = c.hot := by simpa using hh
  have has := o.fn f fn y hΓ hf hs (by cases q : c.hot with | false => exact .inr rfl | true => exact .inl (hh'.trans q))
  rw [hh'] at has
  have ok := hp.ok
  cases hc : c.hot with
  | false =>
    obtain ⟨k, fa, fd, ps, dvs, dus, hr, hm, hk, hb, hd, hdf, F⟩ := has.ex hc
    refine (pe_callD (E := WE W) F (o.gd hc) hr (glb_gl o.sc hg) hm hk hb hd (fun σ => L2N.passAt o.tk σ) hp.pa (nodebug_ok hn).1 (starEach_ok (ok a List.mem_cons_self) _ _) (noStar fun z hz => ok z (List.mem_cons_of_mem _ hz))).imp fun σ H Q hq => ?_
    rw [o.K]
    rw [o.K] at hdf
    have := call_of hΓ hdf hq
    rw [o.er0 hc] at this
    exact this
  | true =>
    obtain ⟨k, fa, fd, ps, dvs, dus, hr, hm, hk, hb, hd, hdf, F⟩ := has.exH hc
    obtain ⟨b, x, oe, e1, e2, e3⟩ := o.er hc
    refine (pe_callE (E := WE W) F hr e3 e2 (glb_gl o.sc hg) hm hk hb hd (fun σ => L2N.passAt o.tk σ) hp.pa (nodebug_ok hn).1 (starEach_ok (ok a List.mem_cons_self) _ _) (noStar fun z hz => ok z (List.mem_cons_of_mem _ hz))).imp fun σ H Q hq => ?_
    rw [o.K]
    rw [o.K] at hdf
    have := call_of hΓ hdf hq
    rw [e1] at this
    exact this
end
end Mini

set_option Elab.async false
set_option linter.all false
set_option maxRecDepth 100000
/-! Mini: a def picked from a written list is called; an exception's class is asked. -/
namespace Mini
open PySem PySem.Spec PyProof.Rows L2
section
variable {X : Cx} {W : WX} {c : Ck} {sc : Scope} {C : Bx} {cl : Cl} {Γ : List Fn} {G : List D} {x : Expr}
/-- a def that stands at f, to be called -/
def FnAt (X : Cx) (cl : Cl) (fn : Fn) (f : Addr) : Prop := ∃ (k : Nat) (fd : FuncData) (ps : List Str) (dvs : List V) (dus : List Value), Room k X.A ∧ PySem.W.keepIn X.K (.ref f) = true ∧ Binds X.K fd ps dus ∧ Vals dvs dus ∧
    (∀ H F, RepL X.K H F dvs fn.dflt) ∧ FnG X.prog X.w X.K X.mg X.base (L2N.CX X.prog X.w) k f fd ps (spOf X.K cl fn)
theorem fns_of (o : XO X W c sc C cl Γ G) (hc : c.hot = false) : ∀ (fs : List Nat) (ys : List Expr), fnsOk c sc fs ys = true →
    ∃ vs : List V, PA X ys (fun _ H Q => Q vs H) ∧ vs.length = fs.length ∧ ys.length = fs.length ∧ ∀ (k f : Nat), fs[k]? = some f → ∃ fn fa, Γ[f]? = some fn ∧ vs[k]? = some (V.ref fa) ∧ FnAt X cl fn fa
  | [], [], _ => ⟨[], PA.imp pa_nil fun _ _ _ q => q, rfl, rfl, fun k f h => by cases h⟩
  | [], _ :: _, h => by cases h
  | f :: fs, [], h => by cases h
  | f :: fs, y :: ys, h => by
    cases y <;> first
      | (cases h; done)
      | skip
    rename_i y p
    simp only [fnsOk, Bool.and_eq_true, decide_eq_true_eq, Bool.not_eq_true'] at h
    obtain ⟨⟨⟨⟨⟨h1, h2⟩, h3⟩, h4⟩, h5⟩, h6⟩ := h
    obtain ⟨vs, pv, l1, l2, hv⟩ := fns_of o hc fs ys h6
    obtain ⟨fn, hΓ⟩ := o.fnl f y h3
    obtain ⟨k, fa, fd, ps, dvs, dus, hr, hm, hk, hb, hd, hdf, F⟩ := (o.fn f fn y hΓ h3 h4 (.inr hc)).ex h5
    refine ⟨.ref fa :: vs, PA.imp (pa_cons (pe_glob (v := .ref fa) (glb_gl o.sc h1) hm rfl (nodebug_ok h2).1) pv) fun σ H Q q => q, by simp [l1], by simp [l2], fun j g hj => ?_⟩
    cases j with
    | zero =>
      simp at hj
      subst hj
      exact ⟨fn, fa, hΓ, rfl, k, fd, ps, dvs, dus, hr, hk, hb, hd, hdf, F⟩
    | succ j => simpa using hv j g (by simpa using hj)
theorem pe_callV {E : L2.St → XK} {lp sp pos : Pos} {ys : List Expr} {j e : Expr} {es : List Expr} {tf : TE} {t : TA} (hf : PE X (.Subscript (.List ys lp) j sp) tf) (hgd : X.A.guards = some []) (hx : ∀ σ, PassesAt (L2N.CX X.prog X.w) X σ (E σ))
    (ha : PA X (e :: es) t) (he : starEach (e :: es) X.env = (false, eval e X.env) :: starEach es X.env) (hpl : (backTo pos (starEach es X.env)).any (·.1) = false) :
    PE X (.Call (.Subscript (.List ys lp) j sp) (e :: es) [] pos) (fun σ H Q => tf σ H fun y H1 => ∃ (f : Addr) (k : Nat) (fd : FuncData) (ps : List Str) (dvs : List V) (dus : List Value) (pr : Sp), y = .ref f ∧ Room k X.A ∧ PySem.W.keepIn X.K (.ref f) = true ∧ Binds X.K fd ps dus ∧ Vals dvs dus ∧
      FnG X.prog X.w X.K X.mg X.base (L2N.CX X.prog X.w) k f fd ps pr ∧ t σ H1 fun vs H2 => pr (vs ++ dvs) H2 Q (E σ)) := by
  refine ⟨fun pins s σ H Q I h => ?_⟩
  refine Call_ (thn (hf.run pins s σ H _ I h) fun u s1 hh => ?_) rfl
  obtain ⟨y, H1, I1, ry, f, k, fd, ps, dvs, dus, pr, ey, hr, hk, hb, hd, F, q⟩ := hh
  subst ey
  obtain rfl : u = Value.ref f := ry
  refine PySem.W.callWith_K (h₀ := X.base) I1.ok.mod.kin hk (thn (ha.run pos pins s1 σ H1 _ I1 q) fun us s2 ⟨vs, H2, I2, r, q2⟩ => ⟨I2.kIn, ?_⟩) he hpl
  exact run_fnD F hgd hr hb hd (hx σ) I2 r q2
theorem Post.toI {σ : L2.St} {H : Hp} {F : Fz} {r : Res Out} {k : Option Int → Ev → Hp → Fz → Prop} (p : Post C cl W σ H F (toI r) k) : Post C cl W σ H F r (fun o e H' F' => ∃ i, o = .val (.int i) ∧ k (some i) e H' F') := by
  cases r with
  | bad => exact p
  | exc x e => exact p
  | ok o e =>
    cases o with
    | own d => exact False.elim p
    | val d => cases d <;> first | exact False.elim p | exact fun H' F' g R => ⟨_, rfl, p H' F' g R⟩
theorem atI_get' {α β : Type} {xs : List α} {ys : List β} {i : Int} {a : α} (hl : xs.length = ys.length) (h : Mini.atI xs i = some a) : ∃ k : Nat, xs[k]? = some a ∧ Mini.atI ys i = ys[k]? := by
  unfold Mini.atI at h ⊢
  rw [← hl]
  cases q : Mini.ixN xs.length i with
  | none => rw [q] at h; cases h
  | some k => rw [q] at h; exact ⟨k, h, rfl⟩
theorem snd_callx (o : XO X W c sc C cl Γ G) {fs : List Nat} {ix : E} {es : List E} {lp sp pos : Pos} {ys : List Expr} {j a : Expr} {as : List Expr} (hc : c.hot = false) (hfs : fnsOk c sc fs ys = true) (hl : ys.length ≤ 1000) (hj : okHead j = true)
    (hix : PE X j (tE C cl W (evE Γ G ix))) (hp : PEs X (a :: as) (es.map fun x => tP C cl W (evP Γ G x))) :
    PE X (.Call (.Subscript (.List ys lp) j sp) (a :: as) [] pos) (tE C cl W (evE Γ G (.callx fs ix es))) := by
  obtain ⟨vs, pv, l1, l2, hv⟩ := fns_of o hc fs ys hfs
  have ok := hp.ok
  refine (pe_callV (E := WE W) (pe_ix ix_list (pe_lst pv) hix (plainIx_ok hj)) (o.gd hc) (fun σ => L2N.passAt o.tk σ) hp.pa (starEach_ok (ok a List.mem_cons_self) _ _) (noStar fun z hz => ok z (List.mem_cons_of_mem _ hz))).imp fun σ H Q hq => ?_
  obtain ⟨e, F, R, p⟩ := hq
  refine ⟨by rw [l1, ← l2, ← SZ_eq]; unfold SZ; omega, fun pp hpp => ?_⟩
  have x := Ext.newF (o := .lst vs) hpp R.tr
  have R1 := R.ext x
  simp only [evE] at p
  refine ⟨e, _, R1, Post.mono (Post.toI (Post.up (Post.bind p) x.grow)) fun oo e1 H1 F1 g1 R2 p1 v hv' => ?_⟩
  obtain ⟨i, rfl, p1⟩ := p1
  have ev : v = .int i := by
    have : Rep C.K H1 F1 v (.int i) := hv'
    cases this; rfl
  subst ev
  dsimp only [Option.bind_some] at p1
  split at p1
  · rename_i f hf
    have hf' : Mini.atI fs i = some f := hf
    obtain ⟨k, k1, k2⟩ := atI_get' (ys := vs) l1.symm hf'
    obtain ⟨fn, fa, hΓ, hvk, kk, fd, ps, dvs, dus, hr, hk, hb, hd, hdf, FG⟩ := hv k f k1
    refine ⟨pp, vs, i, .ref fa, rfl, rfl, .of (g1.kp pp _ (.inr rfl) upd_same), ?_, fa, kk, fd, ps, dvs, dus, _, rfl, hr, hk, hb, hd, FG, ?_⟩
    · have : Mini.atI vs i = some (.ref fa) := by rw [k2, hvk]
      rw [← this]; rfl
    · rw [hΓ] at p1
      rw [o.K] at hdf ⊢
      refine seqT_of es σ H1 _ ⟨e1, F1, R2, Post.mono (Post.bind p1) fun os e2 H2 F2 g2 R3 p2 vs' hvs => ?_⟩
      have := callR_of R3 hvs hdf p2
      rw [o.er0 hc] at this
      exact this
  · exact False.elim p1
/-! ### isinstance -/
theorem pe_isi {a Dd Cm : Addr} {oe : Obj} {b : Bool} {i : Nat} {n y : Str} {p1 p2 p3 pos : Pos} (hpn : (a, oe) ∈ X.pn) (E : ExcC X.K Dd) (hz : Zc (.ref Dd) none oe) (hf : ∃ vs : Array Value, oe.data = .fields vs) (kit : PySem.W.kitOne X.K (.ref Dd) (.ref Cm) = some b)
    (hg : Gl X "isinstance") (hm : X.mg "isinstance" = none) (hn : PE X (.Name n p2) (tVar i)) (hy : PE X (.Name y p3) (tC (.ref Cm))) :
    PE X (.Call (.Name "isinstance" p1) [.Name n p2, .Name y p3] [] pos) (fun σ H Q => σ[i]? = some (some (.ref a)) ∧ Q (.bl b) H) := by
  have hc : CallR X (.builtin "isinstance") (fun xs H Q => xs = [V.ref a, V.ref Cm] ∧ Q (.bl b) H) := by
    intro pins s σ H xs us Q I r h
    obtain ⟨rfl, q⟩ := h
    cases r with
    | cons rx rr =>
      cases rr with
      | cons rt rr =>
        cases rr
        cases rx
        cases rt
        obtain ⟨hget, _⟩ := I.pin (a, oe) (List.mem_append.mpr (.inl hpn))
        obtain ⟨vs, hv⟩ := hf
        have J : PySem.W.InstAt s.heap a oe Dd none := by
          obtain ⟨oc1, od1, ot1, os1⟩ := oe
          obtain ⟨h1, h2⟩ := hz
          dsimp only at h1 h2 hv
          subst h1 h2 hv
          exact ⟨hget, by rfl, by rfl, trivial⟩
        exact PySem.W.kia_one (PySem.W.handS_kitx_exc E.hg E.hk E.hs E.hd E.ha E.hn E.ht E.hm) I.kIn J kit (fun z => nomatch z) fun tk => ⟨.bl b, H, I.kept (t' := tk) fun _ _ z => z, rfl, q⟩
  refine (pe_callB hc hg hm (by decide +kernel) (pa_cons hn (pa_cons hy pa_nil))).imp fun σ H Q hq => ?_
  exact ⟨.ref a, hq.1, rfl, hq.2⟩
theorem under_has {c : Ck} {q m : Nat} (h : q < c.cls.length) : (c.under m).contains q = c.sub q m := by
  rw [Bool.eq_iff_iff]
  simp [Ck.under, h]
theorem snd_isi (o : XO X W c sc C cl Γ G) {i m : Nat} {ns : List Nat} {y : Str} {a : Expr} {p1 p3 pos : Pos} (hh : c.hot = true) (hb : glb sc "isinstance" = true) (ha : chkNm c sc i a = true) (hy : c.cls[m]? = some y) (hg : glb sc y = true) (hd : nodebug y = true) (hn : ns = c.under m) :
    PE X (.Call (.Name "isinstance" p1) [a, .Name y p3] [] pos) (tE C cl W (evE Γ G (.isi i m ns))) := by
  obtain ⟨b, x, oe, e1, e2, ⟨e3, Dd, e4, e5⟩⟩ := o.er hh
  obtain ⟨Cm, k1, k2⟩ := o.ecl m y hy
  obtain ⟨Cn, Cm', q1, q2, ec, kit, _⟩ := o.kit x.cls m _ _ e4 k1
  cases q1; cases q2
  have pn := pe_nm o ha
  obtain ⟨n, p2, rfl, h1, h2, h3⟩ := nm_inv ha
  refine (pe_isi e2 ec e5 (let ⟨vs, hv, _⟩ := e3.2; ⟨vs, hv⟩) kit (glb_gl o.sc hb) (o.nob "isinstance" (by decide)) pn (pe_glob (v := .ref Cm) (glb_gl o.sc hg) k2 rfl (nodebug_ok hd).1)).imp fun σ H Q hq => ?_
  obtain ⟨e, F, R, p⟩ := hq
  simp only [evE] at p
  split at p
  · rename_i x' q
    have s := R.slot i
    rw [q] at s
    obtain ⟨a', s1, s2⟩ := s
    rw [e1] at s2
    cases s2
    refine ⟨st_some s1, ?_⟩
    have := p H F (.refl _ _) R (.bl (c.sub x.cls m)) (by
      rw [hn, under_has (o.clb _ _ e4)]
      exact Rep.bl _)
    exact this
  · exact False.elim p
end
end Mini

set_option Elab.async false
set_option linter.all false
set_option maxRecDepth 100000
/-! Mini: what is walked; names that are stored; comprehensions. -/
namespace Mini
open PySem PySem.Spec PyProof.Rows L2
/-! ### a walk of plain data -/
/-- J gives the items of ds, one at a turn, as long as what is frozen stays -/
structure Wk (C : Bx) (J : It) (n : Nat) (ds : List D) (H : Hp) (F : Fz) (σ : L2.St) : Prop where
  len : ds.length = n
  go : ∃ (G : Hp → Prop) (Y : Nat → Hp → V → Hp → Prop), Walk J n G Y ∧ (∀ e σ2 H2 F2, Rel C e σ2 H2 F2 → Grow H F H2 F2 → G H2) ∧
    ∀ i e σ2 H2 F2 v H3, i < n → Rel C e σ2 H2 F2 → Grow H F H2 F2 → Y i H2 v H3 → ∃ d F3, ds[i]? = some d ∧ Ext H2 F2 H3 F3 (fun _ => False) ∧ Rep C.K H3 F3 v d
/-- a list that stays, whatever its kind -/
def Stay (C : Bx) (H : Hp) (F : Fz) (v : V) (ds : List D) : Prop := ∃ a xs, v = .ref a ∧ ∀ e σ2 H2 F2, Rel C e σ2 H2 F2 → Grow H F H2 F2 → SqL C.K H2 a xs ∧ RepL C.K H2 F2 xs ds
section
variable {C : Bx} {e : Ev} {σ : L2.St} {H H' : Hp} {F F' : Fz}
theorem Rep.stay {v : V} {ds : List D} (r : Rep C.K H F v (.lst ds)) : Stay C H F v ds := by
  obtain ⟨a, xs, rfl, f, e, r⟩ := r.lst_inv
  exact ⟨a, xs, rfl, fun _ _ H2 F2 _ g => ⟨.of (g.kp a _ f e), r.grow g⟩⟩
theorem opd_stay {v : V} {o : Opd} {ds : List D} (R : Rel C e σ H F) (h : OpOk C σ H F v o) (g : o.stay e = some (.lst ds)) : Stay C H F v ds := by
  cases o with
  | dv d => cases g; exact Rep.stay h
  | sl i =>
    have s := R.slot i
    have h' : σ.getD i none = some v := h
    rw [h'] at s
    have g' : (match e.at i with
      | .ro d => some d
      | .st d => some d
      | _ => none) = some (.lst ds) := g
    cases q : e.at i <;> rw [q] at g' s <;> first
      | (cases g'; done)
      | skip
    · cases g'
      obtain ⟨a, e1, xs, es, e2, k1, k2, k3⟩ := s
      cases e1; cases e2
      exact ⟨a, xs, rfl, fun _ _ H2 F2 R2 g => ⟨.of (R2.keep a _ k1 k2), k3.grow g⟩⟩
    · cases g'
      obtain ⟨a, e1, xs, es, e2, k1, k3⟩ := s
      cases e1; cases e2
      refine ⟨a, xs, rfl, fun _ _ H2 F2 R2 g => ⟨?_, k3.grow g⟩⟩
      rcases k1 with ⟨o, k1, k2⟩ | k1
      · exact .inl (.inr ⟨o, R2.keep a _ k1 k2⟩)
      · exact k1 H2
/-- data that stay: other than lists they are frozen -/
theorem opd_stay' {v : V} {o : Opd} {d : D} (R : Rel C e σ H F) (h : OpOk C σ H F v o) (g : o.stay e = some d) : Rep C.K H F v d ∨ ∃ ds, d = .lst ds ∧ Stay C H F v ds := by
  cases o with
  | dv d' => cases g; exact .inl h
  | sl i =>
    have s := R.slot i
    have g' : (match e.at i with
      | .ro d => some d
      | .st d => some d
      | _ => none) = some d := g
    cases q : e.at i <;> rw [q] at g' s <;> first
      | (cases g'; done)
      | skip
    · cases g'
      obtain ⟨a, e1, xs, es, e2, _⟩ := s
      subst e2
      exact .inr ⟨es, rfl, opd_stay R h g⟩
    · cases g'
      obtain ⟨a, e1, xs, es, e2, _⟩ := s
      subst e2
      exact .inr ⟨es, rfl, opd_stay R h g⟩
theorem Stay.len {v : V} {ds : List D} (R : Rel C e σ H F) (s : Stay C H F v ds) : ∃ a xs, v = .ref a ∧ SqL C.K H a xs ∧ xs.length = ds.length ∧ ∀ e σ2 H2 F2, Rel C e σ2 H2 F2 → Grow H F H2 F2 → SqL C.K H2 a xs ∧ RepL C.K H2 F2 xs ds := by
  obtain ⟨a, xs, e1, h⟩ := s
  have z := h e σ H F R (.refl _ _)
  exact ⟨a, xs, e1, z.1, z.2.length, h⟩
theorem wk_list {a : Addr} {xs : List V} {ds : List D} (hl : xs.length = ds.length) (h : ∀ e σ2 H2 F2, Rel C e σ2 H2 F2 → Grow H F H2 F2 → SqL C.K H2 a xs ∧ RepL C.K H2 F2 xs ds) : Wk C (Itl C.K a) xs.length ds H F σ :=
  ⟨hl.symm, _, _, walk_list, fun e σ2 H2 F2 R g => (h e σ2 H2 F2 R g).1, fun i e σ2 H2 F2 v H3 hi R g ⟨e1, e2⟩ => by
    subst e1
    obtain ⟨d, hd, rd⟩ := (h e σ2 _ F2 R g).2.get' e2
    exact ⟨d, F2, hd, .same R.tr, rd⟩⟩
theorem wk_tup {a : Addr} {xs : List V} {ds : List D} (hl : xs.length = ds.length) (h : ∀ e σ2 H2 F2, Rel C e σ2 H2 F2 → Grow H F H2 F2 → SqT C.K H2 a xs ∧ RepL C.K H2 F2 xs ds) : Wk C (Itt C.K a) xs.length ds H F σ :=
  ⟨hl.symm, _, _, walk_tup, fun e σ2 H2 F2 R g => (h e σ2 H2 F2 R g).1, fun i e σ2 H2 F2 v H3 hi R g ⟨e1, e2⟩ => by
    subst e1
    obtain ⟨d, hd, rd⟩ := (h e σ2 _ F2 R g).2.get' e2
    exact ⟨d, F2, hd, .same R.tr, rd⟩⟩
theorem Rep.stayT {v : V} {ds : List D} (r : Rep C.K H F v (.tup ds)) : ∃ a xs, v = .ref a ∧ SqT C.K H a xs ∧ xs.length = ds.length ∧ ∀ e σ2 H2 F2, Rel C e σ2 H2 F2 → Grow H F H2 F2 → SqT C.K H2 a xs ∧ RepL C.K H2 F2 xs ds := by
  cases r with
  | tup f e r => exact ⟨_, _, rfl, .of e, r.length, fun _ _ H2 F2 _ g => ⟨.of (g.kp _ _ f e), r.grow g⟩⟩
  | tupK h r => exact ⟨_, _, rfl, h H, r.length, fun _ _ H2 F2 _ g => ⟨h H2, r.grow g⟩⟩
theorem wk_str {s : List Nat} (ok : StrOk s) : Wk C (Its (sOf s)) s.length (s.map fun c => .str [c]) H F σ :=
  ⟨by simp, _, _, walk_str, fun _ _ _ _ _ _ => trivial, fun i e σ2 H2 F2 v H3 hi R g ⟨e1, c, e2, e3⟩ => by
    subst e1 e3
    have hc : s[i]? = some c := by simpa [sOf] using e2
    refine ⟨.str [c], F2, by rw [List.getElem?_map, hc]; rfl, .same R.tr, Rep.str [c] ⟨?_, fun k hk => ?_⟩⟩
    · show 1 ≤ SZ; decide
    · have : k = c := by simpa using hk
      subst this; exact ok.2 _ (List.mem_of_getElem? hc)⟩
theorem rangeL_get (step : Int) : ∀ (n i : Nat) (lo : Int), i < n → (rangeL lo step n)[i]? = some (.int (lo + (i : Int) * step))
  | 0, i, _, h => by omega
  | n + 1, 0, lo, _ => by show some (D.int lo) = _; simp
  | n + 1, i + 1, lo, h => by
    show (rangeL (lo + step) step n)[i]? = _
    rw [rangeL_get step n i (lo + step) (by omega)]
    congr 2
    have : ((i + 1 : Nat) : Int) = (i : Int) + 1 := by omega
    rw [this, Int.add_mul]
    omega
theorem rangeL_len (step : Int) : ∀ (n : Nat) (lo : Int), (rangeL lo step n).length = n
  | 0, _ => rfl
  | n + 1, lo => by show (rangeL (lo + step) step n).length + 1 = _; rw [rangeL_len]
theorem wk_range {lo : Int} {n : Nat} : Wk C (Itr lo n) n (rangeL lo 1 n) H F σ :=
  ⟨rangeL_len _ _ _, _, _, walk_range, fun _ _ _ _ _ _ => trivial, fun i e σ2 H2 F2 v H3 hi R g ⟨e1, e2⟩ => by
    subst e1 e2
    refine ⟨.int (lo + i), F2, by rw [rangeL_get 1 n i lo hi]; simp, .same R.tr, .int _⟩⟩
theorem enumD_get : ∀ (xs : List D) (i n : Nat) (d : D), xs[i]? = some d → (enumD n xs)[i]? = some (.tup [.int ((n + i : Nat) : Int), d])
  | [], _, _, _, h => by simp at h
  | x :: xs, 0, n, d, h => by simp at h; subst h; rfl
  | x :: xs, i + 1, n, d, h => by
    show (enumD (n + 1) xs)[i]? = _
    rw [enumD_get xs i (n + 1) d (by simpa using h)]
    have : n + 1 + i = n + (i + 1) := by omega
    rw [this]
theorem enumD_len : ∀ (xs : List D) (n : Nat), (enumD n xs).length = xs.length
  | [], _ => rfl
  | x :: xs, n => by show (enumD (n + 1) xs).length + 1 = _; rw [enumD_len]; rfl
theorem zipD_get : ∀ (xs ys : List D) (i : Nat) (d c : D), xs[i]? = some d → ys[i]? = some c → (zipD xs ys)[i]? = some (.tup [d, c])
  | [], _, _, _, _, h, _ => by simp at h
  | _ :: _, [], _, _, _, _, h => by simp at h
  | x :: xs, y :: ys, 0, d, c, h, k => by simp at h k; subst h k; rfl
  | x :: xs, y :: ys, i + 1, d, c, h, k => by
    show (zipD xs ys)[i]? = _
    exact zipD_get xs ys i d c (by simpa using h) (by simpa using k)
theorem zipD_len : ∀ (xs ys : List D), (zipD xs ys).length = min xs.length ys.length
  | [], _ => by simp [zipD]
  | _ :: _, [] => by simp [zipD]
  | x :: xs, y :: ys => by show (zipD xs ys).length + 1 = _; rw [zipD_len, List.length_cons, List.length_cons]; omega
theorem pair_rep {H2 : Hp} {F2 : Fz} {T : Addr} {x y : V} {d c : D} (R : Rel C e σ H2 F2) (hT : H2 T = none) (r1 : Rep C.K H2 F2 x d) (r2 : Rep C.K H2 F2 y c) :
    Ext H2 F2 (upd H2 T (.tup [x, y])) (fun b => F2 b ∨ b = T) (fun _ => False) ∧ Rep C.K (upd H2 T (.tup [x, y])) (fun b => F2 b ∨ b = T) (.ref T) (.tup [d, c]) := by
  have x := Ext.newF (o := .tup [x, y]) hT R.tr
  exact ⟨x, .tup (.inr rfl) upd_same (.cons (r1.grow x.grow) (.cons (r2.grow x.grow) .nil))⟩
theorem wk_enum {a : Addr} {xs : List V} {ds : List D} (hl : xs.length = ds.length) (h : ∀ e σ2 H2 F2, Rel C e σ2 H2 F2 → Grow H F H2 F2 → SqL C.K H2 a xs ∧ RepL C.K H2 F2 xs ds) : Wk C (Ite C.K a) xs.length (enumD 0 ds) H F σ :=
  ⟨by rw [enumD_len, hl], _, _, walk_enum, fun e σ2 H2 F2 R g => (h e σ2 H2 F2 R g).1, fun i e σ2 H2 F2 v H3 hi R g ⟨T, x, y, e1, hT, e3, e4, e5⟩ => by
    subst e1 e3
    cases e4
    obtain ⟨d, hd, rd⟩ := (h e σ2 _ F2 R g).2.get' e5
    obtain ⟨x1, r1⟩ := pair_rep R hT (.int (i : Nat)) rd
    exact ⟨_, _, by rw [enumD_get ds i 0 d hd]; simp, x1, r1⟩⟩
theorem wk_zip {a b : Addr} {xs ys : List V} {ds cs : List D} (hl : xs.length = ds.length) (hk : ys.length = cs.length) (h : ∀ e σ2 H2 F2, Rel C e σ2 H2 F2 → Grow H F H2 F2 → SqL C.K H2 a xs ∧ RepL C.K H2 F2 xs ds)
    (k : ∀ e σ2 H2 F2, Rel C e σ2 H2 F2 → Grow H F H2 F2 → SqL C.K H2 b ys ∧ RepL C.K H2 F2 ys cs) : Wk C (Itz C.K a b) (min xs.length ys.length) (zipD ds cs) H F σ :=
  ⟨by rw [zipD_len, hl, hk], _, _, walk_zip rfl, fun e σ2 H2 F2 R g => ⟨(h e σ2 H2 F2 R g).1, (k e σ2 H2 F2 R g).1⟩, fun i e σ2 H2 F2 v H3 hi R g ⟨T, x, y, e1, hT, e3, e4, e5⟩ => by
    subst e1 e3
    obtain ⟨d, hd, rd⟩ := (h e σ2 _ F2 R g).2.get' e4
    obtain ⟨c, hc, rc⟩ := (k e σ2 _ F2 R g).2.get' e5
    obtain ⟨x1, r1⟩ := pair_rep R hT rd rc
    exact ⟨_, _, zipD_get ds cs i d c hd hc, x1, r1⟩⟩
end
/-- what is walked, read -/
def tIt (C : Bx) (cl : Cl) (W : WX) (it : ItK) (r : Ev → Res (List Opd)) : TI := fun σ H R => ∃ e F, Rel C e σ H F ∧ Post C cl W σ H F (r e) (fun os e' H' F' => ∃ ds xs, stays e' os = some ds ∧ items it ds = some xs ∧ ∀ J n, Wk C J n xs H' F' σ → R J H')
section
variable {X : Cx} {W : WX} {c : Ck} {sc : Scope} {C : Bx} {cl : Cl} {Γ : List Fn} {G : List D}
theorem stays_nil {e : Ev} {os : List Opd} (h : stays e os = some []) : os = [] := by
  cases os with
  | nil => rfl
  | cons o r => unfold stays at h; split at h <;> cases h
theorem stays_cons {e : Ev} {os : List Opd} {d : D} {ds : List D} (h : stays e os = some (d :: ds)) : ∃ o r, os = o :: r ∧ o.stay e = some d ∧ stays e r = some ds := by
  cases os with
  | nil => cases h
  | cons o r =>
    unfold stays at h
    split at h
    · rename_i k1 k2
      cases h
      exact ⟨o, r, rfl, k1, k2⟩
    · cases h
/-- one, two operands that stay -/
theorem stays1 {C : Bx} {e : Ev} {σ : L2.St} {H : Hp} {F : Fz} {vs : List V} {os : List Opd} {d : D} (hv : OpsOk C σ H F vs os) (h : stays e os = some [d]) : ∃ v o, vs = [v] ∧ OpOk C σ H F v o ∧ o.stay e = some d := by
  obtain ⟨o, r, rfl, h1, h2⟩ := stays_cons h
  cases stays_nil h2
  cases hv with | cons h3 t =>
  cases t
  exact ⟨_, o, rfl, h3, h1⟩
theorem stays2 {C : Bx} {e : Ev} {σ : L2.St} {H : Hp} {F : Fz} {vs : List V} {os : List Opd} {d d' : D} (hv : OpsOk C σ H F vs os) (h : stays e os = some [d, d']) : ∃ v w o o', vs = [v, w] ∧ OpOk C σ H F v o ∧ o.stay e = some d ∧ OpOk C σ H F w o' ∧ o'.stay e = some d' := by
  obtain ⟨o, r, rfl, h1, h2⟩ := stays_cons h
  cases hv with | cons h3 t =>
  obtain ⟨w, o', rfl, h4, h5⟩ := stays1 t h2
  exact ⟨_, w, o, o', rfl, h3, h1, h4, h5⟩
/-- for .. in e: a list, a tuple, a text -/
theorem it_seq (o : XO X W c sc C cl Γ G) {tg x : Expr} {a : E} (h : PE X x (tP C cl W (evP Γ G a))) : PI X tg x (tIt C cl W .seq (evO Γ G [a])) := by
  have hl : ∀ {tl : TE}, PE X x tl → PI X tg x (fun σ H R => tl σ H fun v H1 => (∃ a, v = .ref a ∧ (∃ xs, SqL X.K H1 a xs) ∧ R (Itl X.K a) H1) ∨ (∃ a, v = .ref a ∧ (∃ xs, SqT X.K H1 a xs) ∧ R (Itt X.K a) H1) ∨ ∃ z, v = .str z ∧ R (Its z) H1) := fun {tl} hl => by
    refine ⟨fun pins s σ H R I h => ?_⟩
    refine thn (hl.run pins s σ H _ I h) fun v s1 ⟨x, H1, I1, r1, q1⟩ => ?_
    rcases q1 with ⟨a, e, ⟨xs, hq⟩, q⟩ | ⟨a, e, ⟨xs, hq⟩, q⟩ | ⟨z, e, q⟩
    · subst e
      cases r1
      obtain ⟨its, rv, p, hz⟩ := I1.list hq
      refine wpAny_pyIter_list p.isList ?_
      refine ⟨s1.heap.objs.size, [s1.heap.objs.size], _, _, H1, rfl, I1.kept (t' := s1.toks) fun b o e => Heap.get?_push_of_some _ e, turn_list a _, ⟨_, Heap.get?_push_size _ rfl, rfl, rfl⟩, fun b hb => ?_, q⟩
      have e : b = s1.heap.objs.size := by simpa using hb
      subst e
      exact I1.fpOk (Nat.le_refl _) (I1.hok.fresh (Nat.le_refl _))
    · subst e
      cases r1
      obtain ⟨its, rv, p, hz⟩ := I1.tuple hq
      refine wpAny_pyIter_tuple (show s1.heap.IsTuple a its.toArray from p) ?_
      refine ⟨s1.heap.objs.size, [s1.heap.objs.size], _, _, H1, rfl, I1.kept (t' := s1.toks) fun b o e => Heap.get?_push_of_some _ e, turn_tuple a _, ⟨_, Heap.get?_push_size _ rfl, rfl, rfl⟩, fun b hb => ?_, q⟩
      have e : b = s1.heap.objs.size := by simpa using hb
      subst e
      exact I1.fpOk (Nat.le_refl _) (I1.hok.fresh (Nat.le_refl _))
    · subst e
      obtain ⟨t, rfl⟩ := r1
      cases ha : z.cps.all (· < 128)
      · exact wpAny_pyIter_wide ha (pi_one (tk := s1.toks) I1 _ (turn_str _ z t "str_iterator" (.inr rfl)) ⟨_, Heap.get?_push_size _ rfl, rfl, rfl⟩ q)
      · exact wpAny_pyIter_ascii ha (pi_one (tk := s1.toks) I1 _ (turn_str _ z t "str_ascii_iterator" (.inl rfl)) ⟨_, Heap.get?_push_size _ rfl, rfl, rfl⟩ q)
  refine ⟨fun pins s σ H R I hq => (hl h).run pins s σ H R I ?_⟩
  obtain ⟨e, F, Rl, p⟩ := hq
  rw [evO_cons] at p
  refine ⟨e, F, Rl, Post.mono (Post.bind p) fun op e1 H1 F1 g1 R1 p1 v hv => ?_⟩
  obtain ⟨ds, xs, h1, h2, q⟩ := p1 H1 F1 (.refl _ _) R1
  have h0 : ∃ d, ds = [d] ∧ op.stay e1 = some d := by
    cases ds with
    | nil => cases stays_nil h1
    | cons d r =>
      obtain ⟨o1, r1, k1, k2, k3⟩ := stays_cons h1
      cases k1
      cases k3
      exact ⟨d, rfl, k2⟩
  obtain ⟨d, rfl, h3⟩ := h0
  rw [o.K]
  rcases opd_stay' R1 hv h3 with r | ⟨ds, rfl, st⟩
  · cases d <;> first
      | (cases h2; done)
      | skip
    · cases h2
      rename_i z
      have e2 : v = .str (sOf z) ∧ StrOk z := (r.rv (n := 0)).str
      exact .inr (.inr ⟨sOf z, e2.1, q _ _ (wk_str e2.2)⟩)
    · cases h2
      obtain ⟨a, ys, rfl, k1, k2, k3⟩ := r.stayT
      exact .inr (.inl ⟨a, rfl, ⟨ys, k1⟩, q _ _ (wk_tup k2 k3)⟩)
    · cases h2
      obtain ⟨a, ys, rfl, k1, k2, k3⟩ := r.stay.len R1
      exact .inl ⟨a, rfl, ⟨ys, k1⟩, q _ _ (wk_list k2 k3)⟩
  · cases h2
    obtain ⟨a, ys, rfl, k1, k2, k3⟩ := st.len R1
    exact .inl ⟨a, rfl, ⟨ys, k1⟩, q _ _ (wk_list k2 k3)⟩
theorem small62_ok {i : Int} (h : small62 i = true) : -(2 ^ 62) ≤ i ∧ i < 2 ^ 62 := by
  unfold small62 at h
  simpa using h
theorem stay_int {e : Ev} {o : Opd} {i : Int} {σ : L2.St} {H : Hp} {F : Fz} {v : V} (R : Rel C e σ H F) (h : OpOk C σ H F v o) (g : o.stay e = some (.int i)) : v = .int i := by
  rcases opd_stay' R h g with r | ⟨ds, q, _⟩
  · exact (r.rv (n := 0)).int
  · cases q
theorem it_rng1 (o : XO X W c sc C cl Γ G) {tg a : Expr} {f : Str} {p1 p2 : Pos} {es : List E} (hb : blt sc f "range" = true) (hp : PEs X [a] (es.map fun x => tP C cl W (evP Γ G x))) : PI X tg (.Call (.Name f p1) [a] [] p2) (tIt C cl W .rng1 (evO Γ G es)) := by
  obtain ⟨rfl, hg⟩ := blt_inv hb
  have ok := hp.ok a (by simp)
  refine ⟨fun pins s σ H R I hq => (pi_range1 (glb_gl o.sc hg) (o.nob _ (by decide)) hp.pa (starEach_ok ok _ _)).run pins s σ H R I ?_⟩
  obtain ⟨e, F, Rl, p⟩ := hq
  refine seqT_of es σ H _ ⟨e, F, Rl, Post.mono p fun os e1 H1 F1 g1 R1 p1 vs hvs => ?_⟩
  obtain ⟨ds, xs, h1, h2, q⟩ := p1
  simp only [items] at h2
  split at h2
  · split at h2
    · rename_i i hs
      cases h2
      obtain ⟨v, o1, rfl, hv, h3⟩ := stays1 hvs h1
      obtain ⟨s1, s2⟩ := small62_ok hs
      exact ⟨i, by rw [stay_int R1 hv h3], s1, s2, q _ _ wk_range⟩
    · cases h2
  · cases h2
theorem it_rng2 (o : XO X W c sc C cl Γ G) {tg a b : Expr} {f : Str} {p1 p2 : Pos} {es : List E} (hb : blt sc f "range" = true) (hp : PEs X [a, b] (es.map fun x => tP C cl W (evP Γ G x))) : PI X tg (.Call (.Name f p1) [a, b] [] p2) (tIt C cl W .rng2 (evO Γ G es)) := by
  obtain ⟨rfl, hg⟩ := blt_inv hb
  have ok := hp.ok
  refine ⟨fun pins s σ H R I hq => (pi_range2 (glb_gl o.sc hg) (o.nob _ (by decide)) hp.pa (by rw [starEach_ok (ok a (by simp)), starEach_ok (ok b (by simp))]; rfl) (by rw [starEach_ok (ok b (by simp))]; rfl)).run pins s σ H R I ?_⟩
  obtain ⟨e, F, Rl, p⟩ := hq
  refine seqT_of es σ H _ ⟨e, F, Rl, Post.mono p fun os e1 H1 F1 g1 R1 p1 vs hvs => ?_⟩
  obtain ⟨ds, xs, h1, h2, q⟩ := p1
  simp only [items] at h2
  split at h2
  · split at h2
    · rename_i i j hs
      cases h2
      obtain ⟨v, w, o1, o2, rfl, hv, h3, hw, h4⟩ := stays2 hvs h1
      rw [Bool.and_eq_true] at hs
      obtain ⟨s1, s2⟩ := small62_ok hs.1
      obtain ⟨s3, s4⟩ := small62_ok hs.2
      exact ⟨_, _, by rw [stay_int R1 hv h3, stay_int R1 hw h4], ⟨s1, s2, s3, s4⟩, q _ _ wk_range⟩
    · cases h2
  · cases h2
theorem it_enum (o : XO X W c sc C cl Γ G) {a : Expr} {elts : List Expr} {kk : Nat} {tpos : Pos} {f : Str} {p1 p2 : Pos} {es : List E} (hb : blt sc f "enumerate" = true) (hp : PEs X [a] (es.map fun x => tP C cl W (evP Γ G x))) : PI X (.Tuple elts kk tpos) (.Call (.Name f p1) [a] [] p2) (tIt C cl W .enum (evO Γ G es)) := by
  obtain ⟨rfl, hg⟩ := blt_inv hb
  have ok := hp.ok a (by simp)
  refine ⟨fun pins s σ H R I hq => (pi_enum (glb_gl o.sc hg) (o.nob _ (by decide)) hp.pa (starEach_ok ok _ _)).run pins s σ H R I ?_⟩
  obtain ⟨e, F, Rl, p⟩ := hq
  refine seqT_of es σ H _ ⟨e, F, Rl, Post.mono p fun os e1 H1 F1 g1 R1 p1 vs hvs => ?_⟩
  obtain ⟨ds, xs, h1, h2, q⟩ := p1
  simp only [items] at h2
  split at h2
  · cases h2
    obtain ⟨v, o1, rfl, hv, h3⟩ := stays1 hvs h1
    rw [o.K]
    obtain ⟨a, ys, rfl, k1, k2, k3⟩ := (opd_stay R1 hv h3).len R1
    exact ⟨a, ys, rfl, k1, q _ _ (wk_enum k2 k3)⟩
  · cases h2
theorem it_zip (o : XO X W c sc C cl Γ G) {a b : Expr} {elts : List Expr} {kk : Nat} {tpos : Pos} {f : Str} {p1 p2 : Pos} {es : List E} (hb : blt sc f "zip" = true) (hp : PEs X [a, b] (es.map fun x => tP C cl W (evP Γ G x))) : PI X (.Tuple elts kk tpos) (.Call (.Name f p1) [a, b] [] p2) (tIt C cl W .zip (evO Γ G es)) := by
  obtain ⟨rfl, hg⟩ := blt_inv hb
  have ok := hp.ok
  refine ⟨fun pins s σ H R I hq => (pi_zip (glb_gl o.sc hg) (o.nob _ (by decide)) hp.pa (starEach_ok (ok a (by simp)) _ _) (noStar fun y hy => ok y (List.mem_cons_of_mem _ hy))).run pins s σ H R I ?_⟩
  obtain ⟨e, F, Rl, p⟩ := hq
  refine seqT_of es σ H _ ⟨e, F, Rl, Post.mono p fun os e1 H1 F1 g1 R1 p1 vs hvs => ?_⟩
  obtain ⟨ds, xs, h1, h2, q⟩ := p1
  simp only [items] at h2
  split at h2
  · cases h2
    obtain ⟨v, w, o1, o2, rfl, hv, h3, hw, h4⟩ := stays2 hvs h1
    rw [o.K]
    obtain ⟨a, ys, rfl, k1, k2, k3⟩ := (opd_stay R1 hv h3).len R1
    obtain ⟨b, zs, rfl, k4, k5, k6⟩ := (opd_stay R1 hw h4).len R1
    exact ⟨a, b, ys, zs, rfl, k1, k4, q _ _ (wk_zip k2 k5 k3 k6)⟩
  · cases h2
end
end Mini

set_option Elab.async false
set_option linter.all false
set_option maxRecDepth 100000
/-! Mini: names that are stored; comprehensions. -/
namespace Mini
open PySem PySem.Spec PyProof.Rows L2
section
variable {X : Cx} {W : WX} {c : Ck} {sc : Scope} {C : Bx} {cl : Cl} {Γ : List Fn} {G : List D}
/-- a slot is stored -/
theorem Rel.store {e : Ev} {σ : L2.St} {H : Hp} {F : Fz} {i : Nat} {v : V} {s : Sl} (R : Rel C e σ H F) (hi : i < e.length) (nb : ∀ d, e.at i ≠ .bor d) (hs : SlotOk C H F i (some v) s) (nb' : ∀ d, s ≠ .bor d)
    (ap : ∀ a, v = .ref a → s.listy = true → (∀ j, (e.at j).listy = true → σ.getD j none ≠ some (.ref a)) ∧ ∀ p ∈ C.T, p.1 ≠ a) : Rel C (e.set i s) (σ.set i (some v)) H F := by
  have hiσ : i < σ.length := by rw [← R.len]; exact hi
  have at' : ∀ j, Ev.at (e.set i s) j = if i = j then s else e.at j := fun j => by
    rw [Ev.at_set]
    by_cases z : i = j
    · rw [if_pos ⟨z, hi⟩, if_pos z]
    · rw [if_neg (fun q => z q.1), if_neg z]
  have st' : ∀ j, (σ.set i (some v)).getD j none = if i = j then some v else σ.getD j none := fun j => by
    rw [st_set]
    by_cases z : i = j
    · rw [if_pos ⟨z, hiσ⟩, if_pos z]
    · rw [if_neg (fun q => z q.1), if_neg z]
  have ml : ∀ t : Sl, t.mut = true → t.listy = true := fun t h => by cases t <;> first | (cases h; done) | rfl
  refine ⟨by rw [List.length_set, List.length_set]; exact R.len, R.fz, R.fz', R.tr, R.keep, fun p hp => ⟨(R.lent p hp).1, ?_⟩, fun j => ?_, fun j k a hjk hm hl h1 h2 => ?_, fun p hp => ⟨(R.pin p hp).1, (R.pin p hp).2.1, fun j hj h1 => ?_⟩⟩
  · obtain ⟨d, hd⟩ := (R.lent p hp).2
    refine ⟨d, ?_⟩
    rw [at', if_neg (fun z => by rw [← z] at hd; exact nb d hd)]
    exact hd
  · rw [at', st']
    split
    · rename_i z; subst z; exact hs
    · exact R.slot j
  · rw [at'] at hm hl
    rw [st'] at h1 h2
    by_cases z : i = j
    · rw [if_pos z] at hm h1
      rw [if_neg (fun q => hjk (z.symm.trans q))] at hl h2
      cases h1
      exact (ap a rfl (ml _ hm)).1 k hl h2
    · rw [if_neg z] at hm h1
      by_cases z2 : i = k
      · rw [if_pos z2] at hl h2
        cases h2
        exact (ap a rfl hl).1 j (ml _ hm) h1
      · rw [if_neg z2] at hl h2
        exact R.apart j k a hjk hm hl h1 h2
  · rw [at'] at hj
    rw [st'] at h1
    by_cases z : i = j
    · rw [if_pos z] at hj h1
      cases h1
      exact (ap _ rfl hj).2 p hp rfl
    · rw [if_neg z] at hj h1
      exact (R.pin p hp).2.2 j hj h1
/-- slots outside of some are as they were -/
def Outside (is : List Nat) (σ σ' : L2.St) : Prop := σ'.length = σ.length ∧ ∀ j, j ∉ is → σ'[j]? = σ[j]?
theorem Outside.refl (is : List Nat) (σ : L2.St) : Outside is σ σ := ⟨rfl, fun _ _ => rfl⟩
theorem Outside.trans {is js : List Nat} {σ σ1 σ2 : L2.St} (a : Outside is σ σ1) (b : Outside js σ1 σ2) : Outside (is ++ js) σ σ2 :=
  ⟨b.1.trans a.1, fun j hj => by
    rw [List.mem_append, not_or] at hj
    exact (b.2 j hj.2).trans (a.2 j hj.1)⟩
theorem Outside.set (i : Nat) (v : Option V) (σ : L2.St) : Outside [i] σ (σ.set i v) := ⟨List.length_set, fun j hj => by
  rw [List.getElem?_set_ne (fun z => hj (by simp [z]))]⟩
def gP (C : Bx) (p : Pat) : TG := fun v σ H Q => ∃ e F d e', Rel C e σ H F ∧ Rep C.K H F v d ∧ put p d e = some e' ∧ ∀ σ', Rel C e' σ' H F → Outside p.slots σ σ' → Q σ' H
def gPs (C : Bx) (ps : List Pat) : TGs := fun vs σ H Q => ∃ e F ds e', Rel C e σ H F ∧ RepL C.K H F vs ds ∧ putL ps ds e = some e' ∧ ∀ σ', Rel C e' σ' H F → Outside (Pat.slotsL ps) σ σ' → Q σ' H
theorem pg_imp {x : Expr} {t t' : TG} (h : PG X x t) (i : ∀ v σ H Q, t' v σ H Q → t v σ H Q) : PG X x t' := ⟨fun pins s σ H v u Q I r hq => h.run pins s σ H v u Q I r (i v σ H Q hq)⟩
theorem pgs_imp {x : List Expr} {t t' : TGs} (h : PGs X x t) (i : ∀ v σ H Q, t' v σ H Q → t v σ H Q) : PGs X x t' := ⟨fun pins s σ H v u Q I r hq => h.run pins s σ H v u Q I r (i v σ H Q hq)⟩
theorem assignEach_len {env : PySem.Env} : ∀ {xs : List Expr}, (∀ x ∈ xs, okHead x = true) → (assignEach xs env).length = xs.length ∧ (assignEach xs env).findIdx? (·.1) = none
  | [], _ => ⟨rfl, rfl⟩
  | x :: xs, h => by
    have ih := assignEach_len (env := env) (xs := xs) fun y hy => h y (List.mem_cons_of_mem _ hy)
    have e : assignEach (x :: xs) env = (false, assign x env) :: assignEach xs env := by
      have := h x List.mem_cons_self
      cases x <;> first | rfl | (cases this; done)
    rw [e]
    refine ⟨by rw [List.length_cons, List.length_cons, ih.1], ?_⟩
    rw [List.findIdx?_cons, ih.2]
    rfl
theorem assignEach_cons {x : Expr} {xs : List Expr} {env : PySem.Env} (h : okHead x = true) : assignEach (x :: xs) env = (false, assign x env) :: assignEach xs env := by
  cases x <;> first | rfl | (cases h; done)
theorem chkPats_ok {ps : List Pat} : ∀ {es : List Expr}, chkPats c sc ps es = true → (∀ x ∈ es, okHead x = true) ∧ es.length = ps.length := by
  induction ps with
  | nil =>
    intro es h
    cases es with
    | nil => exact ⟨fun _ q => (by cases q), rfl⟩
    | cons _ _ => simp [chkPats] at h
  | cons p ps ih =>
    intro es h
    cases es with
    | nil => simp [chkPats] at h
    | cons x es =>
      simp only [chkPats, Bool.and_eq_true] at h
      obtain ⟨i1, i2⟩ := ih h.2
      refine ⟨fun y hy => ?_, by rw [List.length_cons, List.length_cons, i2]⟩
      rcases List.mem_cons.mp hy with rfl | hy
      · exact h.1.1
      · exact i1 y hy
mutual
theorem snd_pat (o : XO X W c sc C cl Γ G) {ss : Scope} (hso : StOk X ss) : ∀ (p : Pat) (x : Expr), (c.hot = false ∨ p.isNm = true) → chkPat c ss p x = true → PG X x (gP C p)
  | .nm i, x, _, h => by
    cases x <;> first
      | (simp [chkPat] at h; done)
      | skip
    rename_i n pos
    simp only [chkPat, Bool.and_eq_true, decide_eq_true_eq] at h
    have hl := hso n h.2
    refine pg_imp (pg_name o.nd (by rw [o.N]; exact h.1) hl.1 hl.2) fun v σ H Q hq => ?_
    obtain ⟨e, F, d, e', R, r, hp, q⟩ := hq
    simp only [put] at hp
    have key : (∀ d', e.at i ≠ .bor d') ∧ i < e.length ∧ e' = e.set i (.val d) := by
      split at hp
      · cases hp
      · rename_i hnb
        split at hp
        · cases hp; exact ⟨hnb, by assumption, rfl⟩
        · cases hp
    obtain ⟨nb, hi, rfl⟩ := key
    exact q _ (R.store hi nb ⟨v, rfl, r⟩ (fun _ z => by cases z) (fun _ _ z => by cases z)) (Outside.set i _ σ)
  | .tup ps, x, hh, h => by
    have hh : c.hot = false := hh.elim id fun z => by cases z
    cases x <;> first
      | (simp [chkPat] at h; done)
      | skip
    rename_i es k pos
    have h' : chkPats c ss ps es = true := by simpa only [chkPat] using h
    obtain ⟨ok, hlen⟩ := chkPats_ok h'
    obtain ⟨a1, a2⟩ := assignEach_len (env := X.env) ok
    have dl : ∀ (ps : List Pat) (ds : List D) (e e' : Ev), putL ps ds e = some e' → ds.length = ps.length := fun ps => by
      induction ps with
      | nil => intro ds e e' h; cases ds with
        | nil => rfl
        | cons _ _ => simp [putL] at h
      | cons p ps ih => intro ds e e' h; cases ds with
        | nil => simp [putL] at h
        | cons d ds =>
          simp only [putL] at h
          split at h
          · rw [List.length_cons, List.length_cons, ih _ _ _ h]
          · cases h
    have inner := snd_pats o hso hh ps es h'
    refine ⟨fun pins s σ H v u Q I r hq => ?_⟩
    obtain ⟨e, F, d, e', R, rp, hp, q⟩ := hq
    cases d <;> first
      | (simp [put] at hp; done)
      | skip
    · rename_i ds
      have hp' : putL ps ds e = some e' := by simpa only [put] using hp
      obtain ⟨a, xs, rfl, k1, k2⟩ := rp.sqt
      exact (pg_tup (n := es.length) (o.calm hh) inner a1 a2).run pins s σ H _ u Q I r ⟨a, xs, rfl, by rw [o.K]; exact k1, by rw [k2.length, dl ps ds e e' hp', hlen], e, F, ds, e', R, k2, hp', fun σ' R' os => q σ' R' os⟩
    · rename_i ds
      have hp' : putL ps ds e = some e' := by simpa only [put] using hp
      obtain ⟨a, xs, rfl, k1, k2⟩ := RV.lst (n := 2) (.inl rp)
      exact (pg_lst (n := es.length) (o.calm hh) inner a1 a2).run pins s σ H _ u Q I r ⟨a, xs, rfl, by rw [o.K]; exact k1, by rw [k2.length, dl ps ds e e' hp', hlen], e, F, ds, e', R, k2, hp', fun σ' R' os => q σ' R' os⟩
theorem snd_pats (o : XO X W c sc C cl Γ G) {ss : Scope} (hso : StOk X ss) (hh : c.hot = false) : ∀ (ps : List Pat) (es : List Expr), chkPats c ss ps es = true → PGs X es (gPs C ps)
  | [], es, h => by
    cases es with
    | cons _ _ => simp [chkPats] at h
    | nil =>
      refine pgs_imp pgs_nil fun vs σ H Q hq => ?_
      obtain ⟨e, F, ds, e', R, r, hp, q⟩ := hq
      cases ds with
      | nil => cases r; cases hp; exact ⟨rfl, q σ R (.refl _ _)⟩
      | cons _ _ => simp [putL] at hp
  | p :: ps, es, h => by
    cases es with
    | nil => simp [chkPats] at h
    | cons x es =>
      simp only [chkPats, Bool.and_eq_true] at h
      refine pgs_imp (pgs_cons (snd_pat o hso p x (.inl hh) h.1.2) (snd_pats o hso hh ps es h.2) (by rw [assignEach_cons h.1.1]; rfl)) fun vs σ H Q hq => ?_
      obtain ⟨e, F, ds, e', R, r, hp, q⟩ := hq
      cases ds with
      | nil => simp [putL] at hp
      | cons d ds =>
        cases r with | cons r1 r2 =>
        simp only [putL] at hp
        split at hp
        · rename_i e1 h1
          exact ⟨_, _, rfl, e, F, d, e1, R, r1, h1, fun σ1 R1 o1 => ⟨e1, F, ds, e', R1, r2, hp, fun σ2 R2 o2 => q σ2 R2 (o1.trans o2)⟩⟩
        · cases hp
end
end
end Mini

set_option Elab.async false
set_option linter.all false
set_option maxRecDepth 100000
/-! Mini: comprehensions. -/
namespace Mini
open PySem PySem.Spec PyProof.Rows L2
section
variable {C : Bx} {e e' : Ev} {σ σ' : L2.St} {H : Hp} {F : Fz}
/-- slots that hold nothing may hold anything -/
theorem Rel.congr (R : Rel C e σ H F) (hl : σ'.length = σ.length) (h : ∀ j, e.at j ≠ .no → σ'.getD j none = σ.getD j none) : Rel C e σ' H F := by
  have ml : ∀ t : Sl, t.mut = true → t ≠ .no := fun t h z => by subst z; cases h
  have ll : ∀ t : Sl, t.listy = true → t ≠ .no := fun t h z => by subst z; cases h
  refine ⟨R.len.trans hl.symm, R.fz, R.fz', R.tr, R.keep, R.lent, fun j => ?_, fun j k a hjk hm hk h1 h2 => ?_, fun p hp => ⟨(R.pin p hp).1, (R.pin p hp).2.1, fun j hj z => ?_⟩⟩
  · by_cases q : e.at j = .no
    · rw [q]; trivial
    · rw [h j q]; exact R.slot j
  · rw [h j (ml _ hm)] at h1
    rw [h k (ll _ hk)] at h2
    exact R.apart j k a hjk hm hk h1 h2
  · rw [h j (ll _ hj)] at z
    exact (R.pin p hp).2.2 j hj z
theorem wipe_get : ∀ (vs : List Nat) (j : Nat), (wipe σ vs)[j]? = if j ∈ vs ∧ j < σ.length then some none else σ[j]?
  | [], j => by simp [wipe]
  | v :: vs, j => by
    unfold wipe
    rw [List.getElem?_set, wipe_length, wipe_get vs j]
    by_cases h : v = j
    · subst h
      by_cases q : v < σ.length
      · simp [q]
      · simp [q, List.getElem?_eq_none (Nat.le_of_not_lt q)]
    · have : (j ∈ v :: vs) ↔ j ∈ vs := by simp [Ne.symm h]
      rw [if_neg h]
      simp only [this]
theorem wipe_getD (vs : List Nat) (j : Nat) : (wipe σ vs).getD j none = if j ∈ vs then none else σ.getD j none := by
  rw [List.getD_eq_getElem?_getD, wipe_get, List.getD_eq_getElem?_getD]
  by_cases h : j ∈ vs
  · by_cases q : j < σ.length
    · simp [h, q]
    · simp [h, q, List.getElem?_eq_none (Nat.le_of_not_lt q)]
  · simp [h]
theorem wipeE_at : ∀ {is : List Nat} {e e' : Ev}, wipeE e is = some e' → e'.length = e.length ∧ (∀ i ∈ is, e'.at i = .no) ∧ ∀ j, j ∉ is → e'.at j = e.at j
  | [], e, e', h => by cases h; exact ⟨rfl, fun _ q => (by cases q), fun _ _ => rfl⟩
  | i :: is, e, e', h => by
    unfold wipeE at h
    split at h
    · rename_i e1 h1
      obtain ⟨l1, a1, a2⟩ := wipeE_at h1
      split at h
      · cases h
      · cases h
        refine ⟨by rw [List.length_set]; exact l1, fun j hj => ?_, fun j hj => ?_⟩
        · rw [Ev.at_set]
          split
          · rfl
          · rename_i z
            rcases List.mem_cons.mp hj with rfl | hj
            · unfold Ev.at
              have : e1.length ≤ j := by
                rcases Nat.lt_or_ge j e1.length with q | q
                · exact absurd ⟨rfl, q⟩ z
                · exact q
              simp [List.getD, List.getElem?_eq_none this]
            · exact a1 j hj
        · rw [List.mem_cons, not_or] at hj
          rw [Ev.at_set, if_neg (fun z => hj.1 z.1.symm)]
          exact a2 j hj.2
    · cases h
theorem Rel.wipeE : ∀ {is : List Nat} {e e' : Ev}, Rel C e σ H F → Mini.wipeE e is = some e' → Rel C e' σ H F
  | [], e, e', R, h => by cases h; exact R
  | i :: is, e, e', R, h => by
    unfold Mini.wipeE at h
    split at h
    · rename_i e1 h1
      have R1 := Rel.wipeE R h1
      split at h
      · cases h
      · rename_i nb
        cases h
        exact R1.drop nb
    · cases h
theorem Rel.wiped {is : List Nat} (R : Rel C e σ H F) (h : Mini.wipeE e is = some e') : Rel C e' σ H F ∧ Rel C e' (wipe σ is) H F := by
  have R1 := R.wipeE h
  refine ⟨R1, R1.congr (wipe_length σ is) fun j hj => ?_⟩
  rw [wipe_getD, if_neg (fun z => hj ((wipeE_at h).2.1 j z))]
theorem wipe_outside {is js : List Nat} (h : Outside js (wipe σ is) σ') (hs : ∀ i ∈ js, i ∈ is) : wipe σ' is = wipe σ is := by
  apply List.ext_getElem?
  intro j
  rw [wipe_get, wipe_get]
  have hl : σ'.length = σ.length := by rw [h.1, wipe_length]
  rw [hl]
  by_cases q : j ∈ is ∧ j < σ.length
  · rw [if_pos q, if_pos q]
  · rw [if_neg q, if_neg q]
    by_cases q2 : j ∈ is
    · have : σ.length ≤ j := by
        rcases Nat.lt_or_ge j σ.length with z | z
        · exact absurd ⟨q2, z⟩ q
        · exact z
      rw [List.getElem?_eq_none (by rw [hl]; exact this), List.getElem?_eq_none this]
    · rw [h.2 j (fun z => q2 (hs j z)), wipe_get, if_neg (fun z => q2 z.1)]
end
section
variable {X : Cx} {W : WX} {c : Ck} {sc : Scope} {C : Bx} {cl : Cl} {Γ : List Fn} {G : List D}
abbrev W0 : WX := fun _ _ _ _ => False
/-- the readings within a block: what is being made is pinned -/
def gB (C : Bx) (p : Pat) : TG := fun v σ H Q => ∃ T, gP { C with T := T } p v σ H Q
def tB' (C : Bx) (cl : Cl) (r : Ev → Res Bool) : TT := fun σ H Q => ∃ T, tK { C with T := T } cl W0 r σ H Q
def tEB (C : Bx) (cl : Cl) (r : Ev → Res Out) : TE := fun σ H Q => ∃ T, tE { C with T := T } cl W0 r σ H Q
theorem Rel.unpin {T : List (Addr × HO)} {e : Ev} {σ : L2.St} {H : Hp} {F : Fz} (R : Rel { C with T := T } e σ H F) (h : ∀ p ∈ C.T, p ∈ T) : Rel C e σ H F :=
  ⟨R.len, R.fz, R.fz', R.tr, R.keep, R.lent, R.slot, R.apart, fun p hp => R.pin p (h p hp)⟩
theorem Rel.pinned {e : Ev} {σ : L2.St} {H : Hp} {F : Fz} {D : Addr} {o : HO} (R : Rel C e σ H F) (h1 : H D = some o) (h2 : ¬ F D) (h3 : ∀ j, (e.at j).listy = true → σ.getD j none ≠ some (.ref D)) : Rel { C with T := (D, o) :: C.T } e σ H F :=
  ⟨R.len, R.fz, R.fz', R.tr, R.keep, R.lent, R.slot, R.apart, fun p hp => by
    rcases List.mem_cons.mp hp with rfl | hp
    · exact ⟨h1, h2, h3⟩
    · exact R.pin p hp⟩
theorem wipe_there {own : List Nat} {pat : Pat} {cond : Ev → Res Bool} {elt : Ev → Res Out} {l acc ys : List D} {e e3 e4 : Ev} (h : compRun (compTurn own pat cond elt) l acc e = .ok ys e3) (hw : Mini.wipeE e3 own = some e4) : ∃ e', Mini.wipeE e own = some e' := by
  cases l with
  | nil => cases h; exact ⟨e4, hw⟩
  | cons x l =>
    cases q : Mini.wipeE e own with
    | some e' => exact ⟨e', rfl⟩
    | none =>
      unfold compRun compTurn at h
      rw [q] at h
      cases h
/-- what was pinned is written -/
theorem Rel.upPin {e : Ev} {σ : L2.St} {H : Hp} {F : Fz} {D : Addr} {o o' : HO} (R : Rel { C with T := (D, o) :: C.T } e σ H F) (h0 : C.H0 D = none) (hn : ∀ q ∈ C.T, q.1 ≠ D) : Grow H F (upd H D o') F ∧ Rel C e σ (upd H D o') F := by
  obtain ⟨p1, p2, p3⟩ := R.pin (D, o) List.mem_cons_self
  have fne : ∀ a, F a → a ≠ D := fun a h z => p2 (by rw [← z]; exact h)
  have g : Grow H F (upd H D o') F := ⟨fun _ h => h, fun a u h e1 => by rw [upd_ne (fne a h)]; exact e1⟩
  have tl : ∀ i a d, σ.getD i none = some (.ref a) → (e.at i).listy = true → TL C.K H F a d → TL C.K (upd H D o') F a d := fun i a d h1 h2 ⟨xs, ds, e1, k1, k2⟩ =>
    ⟨xs, ds, e1, by rw [upd_ne (fun z => p3 i h2 (by rw [h1, z]))]; exact k1, k2.grow g⟩
  refine ⟨g, R.len, R.fz, R.fz', fun a h => by rw [upd_ne (fne a h)]; exact R.tr a h, fun a u h hb => ?_, fun p hp => ⟨fun z => ?_, (R.lent p hp).2⟩, fun i => ?_, R.apart, fun p hp => ?_⟩
  · have : a ≠ D := fun z => by rw [z, h0] at h; cases h
    rw [upd_ne this]; exact R.keep a u h hb
  · by_cases q : p.2 = D
    · rw [q, upd_same] at z; cases z
    · rw [upd_ne q] at z; exact (R.lent p hp).1 z
  · have s := R.slot i
    have l := tl i
    cases q : e.at i with
    | no => trivial
    | val d => rw [q] at s; obtain ⟨v, e1, r⟩ := s; exact ⟨v, e1, r.grow g⟩
    | own d => rw [q] at s l; obtain ⟨a, e1, t, hf, h0⟩ := s; exact ⟨a, e1, l a d e1 rfl t, hf, h0⟩
    | bor d => rw [q] at s l; obtain ⟨a, e1, t, hf, h0⟩ := s; exact ⟨a, e1, l a d e1 rfl t, hf, h0⟩
    | ro d => rw [q] at s; obtain ⟨b, e1, ys, es, e2, k1, k3, k2⟩ := s; exact ⟨b, e1, ys, es, e2, k1, k3, k2.grow g⟩
    | st d => rw [q] at s; obtain ⟨b, e1, ys, es, e2, k1, k2⟩ := s; exact ⟨b, e1, ys, es, e2, k1, k2.grow g⟩
    | err x => rw [q] at s; exact s
  · obtain ⟨q1, q2, q3⟩ := R.pin p (List.mem_cons_of_mem _ hp)
    exact ⟨by rw [upd_ne (hn p hp)]; exact q1, q2, q3⟩
theorem comp_of (o : XO X W c sc C cl Γ G) {own : List Nat} {pat : Pat} {it : ItK} {src : List E} {cond : Option E} {elt : E} {ow : List (Str × Nat)} {σ : L2.St} {H : Hp} {Q : VK}
    (how : ow.map (·.2) = own) (hsl : ∀ i ∈ pat.slots, i ∈ own) (hq : tE C cl W (evE Γ G (.comp own pat it src cond elt)) σ H Q) :
    tLc (tIt C cl W it (evO Γ G src)) (gB C pat) (tB' C cl (evC Γ G cond)) (tEB C cl (evE Γ G elt)) (ow.map (·.2)) σ H Q := by
  subst how
  obtain ⟨e, F, R, p⟩ := hq
  simp only [evE] at p
  refine ⟨e, F, R, Post.mono (Post.bind p) fun os e1 H1 F1 g1 R1 p1 => ?_⟩
  unfold compR at p1
  split at p1
  · exact False.elim p1
  rename_i ds hds
  split at p1
  · rename_i xs e2 hxs hw2
    split at p1
    · rename_i ys e3 hrun
      split at p1
      · rename_i e4 hw4
        refine ⟨ds, xs, hds, hxs, fun J n wk D hD => ?_⟩
        obtain ⟨G0, Y, wlk, hG, hY⟩ := wk.go
        have hD0 := R1.h0 hD
        have nlD : ∀ j, (e1.at j).listy = true → σ.getD j none ≠ some (.ref D) := fun j hj z => R1.listy hj z hD
        have npD : ∀ q ∈ C.T, q.1 ≠ D := fun q hq z => by have := (R1.pin q hq).1; rw [z, hD] at this; cases this
        have x0 := Ext.new (o := .lst []) hD R1.tr
        refine lc_it (σ := σ) (H1 := H1) (D := D) wlk (fun i H => ∃ e F acc accD e', Mini.wipeE e (ow.map (·.2)) = some e' ∧ Rel C e' (wipe σ (ow.map (·.2))) H F ∧ Grow H1 F1 H F ∧ H D = some (.lst acc) ∧ RepL C.K H F acc accD ∧ ¬ F D ∧
          (∀ j, (e'.at j).listy = true → (wipe σ (ow.map (·.2))).getD j none ≠ some (.ref D)) ∧ compRun (compTurn (ow.map (·.2)) pat (evC Γ G cond) (evE Γ G elt)) (xs.drop i) accD e = .ok ys e3) ?_ ?_ ?_ ?_
        · -- the start
          have R2 := (R1.ext x0).wiped hw2
          obtain ⟨e2', h2'⟩ := wipe_there hrun hw4
          have R3 := R2.2.wiped h2'
          refine ⟨e2, F1, [], [], e2', h2', R3.1, x0.grow, upd_same, .nil, fun z => R1.tr D z hD, fun j hj z => ?_, by simpa using hrun⟩
          have hno : j ∉ ow.map (·.2) := fun q => by rw [(wipeE_at h2').2.1 j q] at hj; cases hj
          rw [wipe_getD, if_neg hno] at z
          rw [(wipeE_at h2').2.2 j hno, (wipeE_at hw2).2.2 j hno] at hj
          exact nlD j hj z
        · rintro i H2 hi ⟨e, F2, acc, accD, e', h1, R2, g2, _⟩
          exact hG e' _ H2 F2 R2 g2
        · rintro i v H2 H3 hi ⟨e, F2, acc, accD, e', h1, R2, g2, hDa, ra, hnF, hnl, hr⟩ hy
          obtain ⟨d, F3, hd, x3, rd⟩ := hY i e' _ H2 F2 v H3 hi R2 g2 hy
          have hlt : i < xs.length := (List.getElem?_eq_some_iff.mp hd).1
          have hdr : xs.drop i = d :: xs.drop (i + 1) := by
            rw [List.drop_eq_getElem_cons hlt]
            rw [List.getElem?_eq_getElem hlt] at hd
            cases hd; rfl
          rw [hdr] at hr
          unfold compRun at hr
          have R2p := R2.pinned hDa hnF hnl
          have R3 := R2p.ext x3
          have g3 := x3.grow
          -- the turn
          cases htn : compTurn (ow.map (·.2)) pat (evC Γ G cond) (evE Γ G elt) d e with
          | bad => rw [htn] at hr; cases hr
          | exc _ _ => rw [htn] at hr; cases hr
          | ok r e5 =>
            rw [htn] at hr
            unfold compTurn at htn
            rw [h1] at htn
            dsimp only at htn
            split at htn
            · cases htn
            rename_i e6 hput
            refine ⟨_, e', F3, d, e6, R3, rd, hput, fun σ2 R4 out => ?_⟩
            have hwp : wipe σ2 (ow.map (·.2)) = wipe σ (ow.map (·.2)) := wipe_outside out hsl
            refine ⟨hwp, ?_⟩
            have again : ∀ {e7 : Ev} {H4 : Hp} {F4 : Fz} {acc' : List V} {accD' : List Mini.D}, Rel C e7 σ2 H4 F4 → Grow H1 F1 H4 F4 → H4 D = some (.lst acc') → RepL C.K H4 F4 acc' accD' → ¬ F4 D → (∀ j, (e7.at j).listy = true → σ2.getD j none ≠ some (.ref D)) →
                compRun (compTurn (ow.map (·.2)) pat (evC Γ G cond) (evE Γ G elt)) (xs.drop (i + 1)) accD' e7 = .ok ys e3 → ∃ e F acc accD e', Mini.wipeE e (ow.map (·.2)) = some e' ∧ Rel C e' (wipe σ (ow.map (·.2))) H4 F ∧ Grow H1 F1 H4 F ∧ H4 D = some (.lst acc) ∧ RepL C.K H4 F acc accD ∧ ¬ F D ∧
                (∀ j, (e'.at j).listy = true → (wipe σ (ow.map (·.2))).getD j none ≠ some (.ref D)) ∧ compRun (compTurn (ow.map (·.2)) pat (evC Γ G cond) (evE Γ G elt)) (xs.drop (i + 1)) accD e = .ok ys e3 := by
              intro e7 H4 F4 acc' accD' R7 g7 hD7 ra7 hn7 hl7 hr7
              obtain ⟨e7', h7⟩ := wipe_there hr7 hw4
              have R8 := R7.wiped h7
              rw [hwp] at R8
              refine ⟨e7, F4, acc', accD', e7', h7, R8.2, g7, hD7, ra7, hn7, fun j hj z => ?_, hr7⟩
              have hno : j ∉ ow.map (·.2) := fun q => by rw [(wipeE_at h7).2.1 j q] at hj; cases hj
              rw [← hwp, wipe_getD, if_neg hno] at z
              rw [(wipeE_at h7).2.2 j hno] at hj
              exact hl7 j hj z
            have g4 := g2.trans g3
            refine ⟨_, e6, F3, R4, ?_⟩
            cases hcd : evC Γ G cond e6 with
            | bad => rw [hcd] at htn; cases htn
            | exc _ _ => rw [hcd] at htn; cases htn
            | ok b e8 =>
              rw [hcd] at htn
              intro H4 F4 gg4 R5
              cases b with
              | false =>
                rw [if_neg Bool.false_ne_true]
                cases htn
                obtain ⟨q1, q2, q3⟩ := R5.pin (D, .lst acc) List.mem_cons_self
                exact again (R5.unpin fun p hp => List.mem_cons_of_mem _ hp) (g4.trans gg4) q1 (ra.grow (g3.trans gg4)) q2 q3 hr
              | true =>
                rw [if_pos rfl]
                refine ⟨_, e8, F4, R5, ?_⟩
                dsimp only at htn
                cases hel : evE Γ G elt e8 with
                | bad => rw [hel] at htn; cases htn
                | exc _ _ => rw [hel] at htn; cases htn
                | ok out e9 =>
                  rw [hel] at htn
                  cases htn
                  intro H5 F5 g5 R6 v hv
                  obtain ⟨F6, g6, R7, rv⟩ := hv.frozen R6
                  obtain ⟨q1, q2, q3⟩ := R7.pin (D, .lst acc) List.mem_cons_self
                  have gg := (g3.trans gg4).trans (g5.trans g6)
                  obtain ⟨g8, R8⟩ := R7.upPin (o' := .lst (acc ++ [v])) hD0 npD
                  dsimp only [Res.bind] at hr
                  split at hr
                  · rename_i hz
                    refine ⟨acc, q1, by rw [ra.length, ← SZ_eq]; exact hz, ?_⟩
                    exact again R8 ((g4.trans (gg4.trans (g5.trans g6))).trans g8) upd_same (((ra.grow gg).append (.cons rv .nil)).grow g8) q2 q3 hr
                  · cases hr
        · rintro H2 ⟨e, F2, acc, accD, e', h1, R2, g2, hDa, ra, hnF, hnl, hr⟩
          rw [List.drop_eq_nil_of_le (by rw [wk.len]; exact Nat.le_refl _)] at hr
          cases hr
          rw [hw4] at h1
          cases h1
          have nown : ∀ j, e4.at j ≠ .no → j ∉ ow.map (·.2) := fun j hj q => hj ((wipeE_at hw4).2.1 j q)
          refine p1 H2 F2 g2 (R2.congr (wipe_length σ _).symm fun j hj => by rw [wipe_getD, if_neg (nown j hj)]) (.ref D) ⟨D, rfl, ⟨acc, ys, rfl, hDa, ra⟩, hnF, hD0, fun j hj z => hnl j hj ?_, npD⟩
          rw [wipe_getD, if_neg (nown j (fun q => by rw [q] at hj; cases hj))]
          exact z
      · exact False.elim p1
    · exact False.elim p1
  · exact False.elim p1
theorem gB_pg {X' : Cx} {tg : Expr} {pat : Pat} (h : ∀ T : List (Addr × HO), PG X' tg (gP { C with T := T } pat)) : PG X' tg (gB C pat) := ⟨fun pins s1 σ H1 v u Q I r ⟨T, hq⟩ => (h T).run pins s1 σ H1 v u Q I r hq⟩
theorem tB_pts {X' : Cx} {ifs : List Expr} {r : Ev → Res Bool} (h : ∀ T : List (Addr × HO), PTs X' ifs (tK { C with T := T } cl W0 r)) : PTs X' ifs (tB' C cl r) := ⟨fun pins s1 σ H1 Q I ⟨T, hq⟩ => (h T).run pins s1 σ H1 Q I hq⟩
theorem tE_pe {X' : Cx} {y : Expr} {r : Ev → Res Out} (h : ∀ T : List (Addr × HO), PE X' y (tE { C with T := T } cl W0 r)) : PE X' y (tEB C cl r) := ⟨fun pins s1 σ H1 Q I ⟨T, hq⟩ => (h T).run pins s1 σ H1 Q I hq⟩
theorem fold_ok {iter : Expr} (hit : okHead iter = true) (env : PySem.Env) : ∀ v, foldedSetIterable iter env v = pure v := fun v => by cases iter <;> first | rfl | (cases hit; done)
theorem snd_comp (o : XO X W c sc C cl Γ G) (hh : c.hot = false) {own : List Nat} {pat : Pat} {it : ItK} {src : List E} {cond : Option E} {elt : E} {y tg iter : Expr} {ifs : List Expr} {scope : Scope} {pos : Pos} {ow : List (Str × Nat)}
    (how : ow.map (·.2) = own) (hb : BlkOk X.N X.env.scope scope ow) (hsl : ∀ i ∈ pat.slots, i ∈ own) (hi : PI X tg iter (tIt C cl W it (evO Γ G src))) (hit : okHead iter = true)
    (hg : ∀ (s : Shared) (H : Hp) (C0 : Addr) (cl0 : List (Str × Addr)) (fp : List Addr) (T : List (Addr × HO)), PG (X.blk s H scope (compEnvC scope cl0 C0 X.env) fp) tg (gP { C with T := T } pat))
    (ht : ∀ (s : Shared) (H : Hp) (C0 : Addr) (cl0 : List (Str × Addr)) (fp : List Addr) (T : List (Addr × HO)), PTs (X.blk s H scope (compEnvC scope cl0 C0 X.env) fp) ifs (tK { C with T := T } cl W0 (evC Γ G cond)))
    (he : ∀ (s : Shared) (H : Hp) (C0 : Addr) (cl0 : List (Str × Addr)) (fp : List Addr) (T : List (Addr × HO)), PE (X.blk s H scope (compEnvC scope cl0 C0 X.env) fp) y (tE { C with T := T } cl W0 (evE Γ G elt))) :
    PE X (.ListComp y [⟨tg, iter, ifs, 0⟩] scope pos) (tE C cl W (evE Γ G (.comp own pat it src cond elt))) := by
  refine (pe_lc (pos := pos) (o.calm hh) o.nd hi hb (fun s H C0 cl0 fp => gB_pg (hg s H C0 cl0 fp)) (fun s H C0 cl0 fp => tB_pts (ht s H C0 cl0 fp)) (fun s H C0 cl0 fp => tE_pe (he s H C0 cl0 fp)) (fold_ok hit _)).imp fun σ H Q hq => comp_of o how hsl hq
end
end Mini

set_option Elab.async false
set_option linter.all false
set_option maxRecDepth 100000
/-! Mini: what the look has taken of an expression is run as the evaluator says. -/
namespace Mini
open PySem PySem.Spec PyProof.Rows L2
section
variable {X : Cx} {W : WX} {c : Ck} {sc : Scope} {C : Bx} {cl : Cl} {Γ : List Fn} {G : List D} {x : Expr}
theorem pr_formT (o : XO X W c sc C cl Γ G) {p : Pr} {l : Expr} {ops : List CmpOp} {rs : List Expr} {pos : Pos} {xs : List Expr} {ts : List TE} (h : shp sc p (.Compare l ops rs pos) = some xs) (hp : PEs X xs ts) : PT X (.Compare l ops rs pos) (tTest (tPR X.K p ts)) := by
  have cmp : ∀ {op : CmpOp} {p : Pr}, OpR X (compareOp op) (P2 X.K p) → cmpS op (.Compare l ops rs pos) = some xs → PT X (.Compare l ops rs pos) (tTest (tPR X.K p ts)) := fun ho h => by
    obtain ⟨a, b, pos, e, rfl⟩ := cmpS_inv h
    rw [e]
    exact cmp_formT ho hp
  have cN : ∀ {op : CmpOp} {p : Pr}, OpR X (compareOp op) (fun x y H Q => y = .non ∧ P1 X.K p x H Q) → cmpN op (.Compare l ops rs pos) = some xs → PT X (.Compare l ops rs pos) (tTest (tPR X.K p ts)) := fun ho h => by
    obtain ⟨a, j, p2, pos, e, rfl⟩ := cmpN_inv h
    rw [e]
    exact isN_formT ho hp
  cases p with
  | eq => exact cmp (po_eq o.un) h
  | ne => exact cmp (po_ne o.un) h
  | lt => exact cmp po_lt h
  | le => exact cmp po_le h
  | gt => exact cmp po_gt h
  | ge => exact cmp po_ge h
  | inR =>
    obtain ⟨f, p1, p2, pos2, a, b, e, hb, rfl⟩ := inRS_inv h
    cases e
    exact inR_formT o hb hp
  | isin => exact cmp po_in h
  | notin => exact cmp po_notin h
  | isB => exact cmp po_isB h
  | notB => exact cmp po_notB h
  | isN => exact cN po_isN h
  | notN => exact cN po_notN h
  | _ => cases h
theorem snd_pr (o : XO X W c sc C cl Γ G) {p : Pr} {es : List E} {xs : List Expr} (hh : (c.hot && coldP p) = false) (h : shp sc p x = some xs) (hp : PEs X xs (es.map fun x => tP C cl W (evP Γ G x))) : PE X x (tE C cl W (evE Γ G (.pr p es))) :=
  (pr_form o hh h hp).imp fun σ H Q hq => by
    rw [o.K]
    exact prim_of hq
theorem sndT_pr (o : XO X W c sc C cl Γ G) {p : Pr} {es : List E} {l : Expr} {ops : List CmpOp} {rs : List Expr} {pos : Pos} {xs : List Expr} (h : shp sc p (.Compare l ops rs pos) = some xs) (hp : PEs X xs (es.map fun x => tP C cl W (evP Γ G x))) :
    PT X (.Compare l ops rs pos) (tK C cl W fun e => toB (evE Γ G (.pr p es) e)) :=
  (pr_formT o h hp).imp fun σ H Q hq => by
    rw [o.K]
    exact prim_of (tK_of hq)
theorem it_form (o : XO X W c sc C cl Γ G) {it : ItK} {tg iter : Expr} {src : List E} {xs : List Expr} (h : shpIt sc tg it iter = some xs) (hi : okHead iter = true) (hp : PEs X xs (src.map fun x => tP C cl W (evP Γ G x))) : PI X tg iter (tIt C cl W it (evO Γ G src)) := by
  cases it with
  | seq =>
    cases h
    match src, hp with
    | [a], hp =>
      obtain ⟨t, e, _, p⟩ := hp.inv1
      cases e
      exact it_seq o p
    | [], hp => cases hp
    | _ :: _ :: _, hp => cases hp with | cons _ _ _ r => cases r
  | rng1 =>
    have h' : rngS1 sc iter = some xs := h
    unfold rngS1 at h'
    split at h'
    · split at h'
      · cases h'; exact it_rng1 o (by assumption) hp
      · cases h'
    · cases h'
  | rng2 =>
    have h' : rngS2 sc iter = some xs := h
    unfold rngS2 at h'
    split at h'
    · split at h'
      · cases h'; exact it_rng2 o (by assumption) hp
      · cases h'
    · cases h'
  | enum =>
    have h' : (if isTup tg then enumS sc iter else none) = some xs := h
    split at h'
    · rename_i ht
      cases tg <;> first
        | (cases ht; done)
        | skip
      unfold enumS at h'
      split at h'
      · split at h'
        · cases h'; exact it_enum o (by assumption) hp
        · cases h'
      · cases h'
    · cases h'
  | zip =>
    have h' : (if isTup tg then zipS sc iter else none) = some xs := h
    split at h'
    · rename_i ht
      cases tg <;> first
        | (cases ht; done)
        | skip
      unfold zipS at h'
      split at h'
      · split at h'
        · cases h'; exact it_zip o (by assumption) hp
        · cases h'
      · cases h'
    · cases h'
  | rng3 => cases h
/-- a block's context -/
theorem XO.blk (o : XO X W c sc C cl Γ G) (hh : c.hot = false) (s : Shared) (H : Hp) (scope : Scope) (C0 : Addr) (cl0 : List (Str × Addr)) (fp : List Addr) (T : List (Addr × HO)) : XO (X.blk s H scope (compEnvC scope cl0 C0 X.env) fp) W0 c (relS scope sc) { C with T := T } cl Γ G where
  K := o.K
  N := o.N
  nd := o.nd
  sc := by rw [← o.sc]; rfl
  calm := o.calm
  un := o.un
  gd := o.gd
  er0 := o.er0
  er := fun z => by rw [hh] at z; cases z
  tk := fun _ _ ⟨_, _, _, _, _, _, _, _, _, _, _, _, _, _, _, _, w⟩ => False.elim w
  ecl := o.ecl
  kit := o.kit
  clb := o.clb
  nob := o.nob
  glob := o.glob
  fnl := o.fnl
  fn := fun i fn x h1 h2 h3 h4 => ⟨(o.fn i fn x h1 h2 h3 h4).ex, (o.fn i fn x h1 h2 h3 h4).exH⟩
theorem StOk.blk (s : Shared) (H : Hp) (scope : Scope) (C0 : Addr) (cl0 : List (Str × Addr)) (fp : List Addr) : StOk (X.blk s H scope (compEnvC scope cl0 C0 X.env) fp) scope := fun n h => by
  have hl := stored_loc h
  have k : ∀ k, k ≠ NameKind.free → scope.names.lookup n = some k → (compEnvC scope cl0 C0 X.env).scope.names.lookup n = some k := fun k h1 h2 => lookup_relS_keep (sc := X.env.scope) h1 h2
  rcases hl with h | h
  · exact ⟨.inl (k _ (by decide) h), .inr (k _ (by decide) h)⟩
  · refine ⟨.inr (k _ (by decide) h), .inl ?_⟩
    show (scope.names.lookup n == some .cell) = true
    rw [h]; rfl
mutual
theorem sndE : ∀ (ie : E) {X : Cx} {W : WX} {c : Ck} {sc : Scope} {C : Bx} (o : XO X W c sc C cl Γ G) (x : Expr), chkE c sc ie x = true → ie.isRd = false → PE X x (tE C cl W (evE Γ G ie))
  | .v i, _, _, _, _, _, o, x, h, _ => snd_v o (by simpa only [chkE] using h)
  | .mv i, _, _, _, _, _, o, x, h, _ => snd_mv o (by simpa only [chkE] using h)
  | .fz i, _, _, _, _, _, o, x, h, _ => snd_fz o (by simpa only [chkE] using h)
  | .rd i, _, _, _, _, _, o, x, h, hr => by cases hr
  | .k d, _, _, _, _, _, o, x, h, _ => snd_k (by simpa only [chkE] using h)
  | .g j, _, _, _, _, _, o, x, h, _ => snd_g o h
  | .pr p es, _, _, _, _, _, o, x, h, _ => by
    simp only [chkE, Bool.and_eq_true, Bool.not_eq_true'] at h
    obtain ⟨hh, h⟩ := h
    split at h
    · rename_i xs hs
      exact snd_pr o hh hs (sndL es o xs h)
    · cases h
  | .chain c1 c2 a b d, X, W, c, sc, C, o, x, h, _ => by
    simp only [chkE] at h
    split at h
    · simp only [Bool.and_eq_true, Bool.not_eq_true'] at h
      obtain ⟨⟨⟨⟨⟨⟨⟨⟨⟨⟨h1, h2⟩, h3⟩, h4⟩, h5⟩, h6⟩, h7⟩, h8⟩, h9⟩, h10⟩, h11⟩ := h
      exact (pe_chain (cmpOf_op o h1) (cmpOf_op o h2) (snd_val (sndE a o _ h9 h6)) (snd_val (sndE b o _ h10 h7)) (snd_val (sndE d o _ h11 h8)) (mark_ok h5 _)).imp fun σ H Q hq => chain_of o hq
    · cases h
  | .and a b, _, _, _, _, _, o, x, h, _ => by
    simp only [chkE] at h
    split at h
    · simp only [Bool.and_eq_true, Bool.not_eq_true'] at h
      exact snd_and (sndE a o _ h.1.2 h.1.1.1) (pe_one (sndE b o _ h.2 h.1.1.2))
    · simp only [Bool.and_eq_true, Bool.not_eq_true'] at h
      exact snd_and (sndE a o _ h.1.2 h.1.1.1) (sndE b o _ h.2 h.1.1.2)
    · cases h
  | .or a b, _, _, _, _, _, o, x, h, _ => by
    simp only [chkE] at h
    split at h
    · simp only [Bool.and_eq_true, Bool.not_eq_true'] at h
      exact snd_or (sndE a o _ h.1.2 h.1.1.1) (pe_one (sndE b o _ h.2 h.1.1.2))
    · simp only [Bool.and_eq_true, Bool.not_eq_true'] at h
      exact snd_or (sndE a o _ h.1.2 h.1.1.1) (sndE b o _ h.2 h.1.1.2)
    · cases h
  | .not a, _, _, _, _, _, o, x, h, _ => by
    simp only [chkE] at h
    split at h
    · simp only [Bool.and_eq_true, Bool.not_eq_true'] at h
      exact snd_not (sndE a o _ h.2 h.1)
    · cases h
  | .truth a, _, _, _, _, _, o, x, h, _ => by simp [chkE] at h
  | .ite t a b, _, _, _, _, _, o, x, h, _ => by
    simp only [chkE] at h
    split at h
    · simp only [Bool.and_eq_true, Bool.not_eq_true'] at h
      exact snd_ite (sndT t o _ h.1.1.1.1) (sndE a o _ h.1.2 h.1.1.1.2) (sndE b o _ h.2 h.1.1.2)
    · cases h
  | .slc a lo hi, _, _, _, _, _, o, x, h, _ => by
    simp only [chkE] at h
    split at h
    · simp only [Bool.and_eq_true] at h
      exact snd_slc o (snd_P o (fun hr => sndE a o _ h.1.1.2 hr) h.1.1.2) (sndB lo o _ h.1.2) (sndB hi o _ h.2)
    · cases h
  | .meth m a es, _, _, _, _, _, o, x, h, _ => by
    simp only [chkE] at h
    split at h
    · simp only [Bool.and_eq_true, beq_iff_eq, decide_eq_true_eq] at h
      obtain ⟨⟨⟨⟨⟨⟨h1, h2⟩, h3⟩, h4⟩, h5⟩, h6⟩, h7⟩ := h
      rename_i ob n ap as cp
      subst h1
      match as, h4, h7 with
      | [y], _, h7 => exact snd_meth o (by rw [h2]; exact beq_self_eq_true _) h3 (snd_P o (fun hr => sndE a o _ h6 hr) h6) (sndL es o [y] h7)
      | [], h4, _ => cases h4
      | _ :: _ :: _, h4, _ => cases h4
    · cases h
  | .call f es, _, _, _, _, _, o, x, h, _ => by
    simp only [chkE] at h
    split at h
    · simp only [Bool.and_eq_true, decide_eq_true_eq] at h
      obtain ⟨⟨⟨⟨⟨h1, h2⟩, h3⟩, h4⟩, hq⟩, h5⟩ := h
      exact snd_call o h1 h2 h3 h4 hq (sndL es o _ h5)
    · cases h
  | .callx fs ix es, _, _, _, _, _, o, x, h, _ => by
    simp only [chkE] at h
    split at h
    · simp only [Bool.and_eq_true, decide_eq_true_eq, Bool.not_eq_true'] at h
      obtain ⟨⟨⟨⟨⟨⟨h1, h2⟩, h3⟩, h4⟩, h5⟩, h6⟩, h7⟩ := h
      exact snd_callx o h1 h2 h3 h4 (sndE ix o _ h6 h5) (sndL es o _ h7)
    · cases h
  | .isi i m ns, _, _, _, _, _, o, x, h, _ => by
    simp only [chkE] at h
    split at h
    · simp only [Bool.and_eq_true, decide_eq_true_eq] at h
      obtain ⟨⟨⟨⟨⟨⟨h1, h2⟩, h3⟩, h4⟩, h5⟩, h6⟩, h7⟩ := h
      obtain ⟨rfl, hb⟩ := blt_inv h2
      exact snd_isi o h1 hb h3 h4 h5 h6 h7
    · cases h
  | .mu m i es, _, _, _, _, _, o, x, h, _ => by
    simp only [chkE] at h
    split at h
    · simp only [Bool.and_eq_true, beq_iff_eq, decide_eq_true_eq] at h
      obtain ⟨⟨⟨⟨⟨h1, h2⟩, h3⟩, h4⟩, h5⟩, h6⟩ := h
      subst h1
      exact snd_mu o h5 (by rw [h2]; exact beq_self_eq_true _) h3 h4 (sndL es o _ h6)
    · cases h
  | .comp own pat it src cond elt, X, W, c, sc, C, o, x, h, _ => by
    simp only [chkE] at h
    split at h
    · rename_i y tg iter ifs scope pos
      simp only [Bool.and_eq_true, decide_eq_true_eq, Bool.not_eq_true', List.all_eq_true, List.contains_eq_mem] at h
      obtain ⟨⟨⟨⟨⟨⟨⟨⟨⟨⟨⟨hh, h1⟩, h2⟩, h3⟩, h4⟩, h5⟩, h6⟩, h7⟩, h8⟩, h9⟩, h10⟩, h11⟩ := h
      have hPI : PI X tg iter (tIt C cl W it (evO Γ G src)) := by
        split at h11
        · rename_i xs hs
          exact it_form o hs h6 (sndL src o xs h11)
        · cases h11
      refine snd_comp o hh h2 (blkOk_by (by rw [o.N, o.sc]; exact h1)) h3 hPI h6 (fun s H C0 cl0 fp T => snd_pat (o.blk hh s H scope C0 cl0 fp T) (StOk.blk s H scope C0 cl0 fp) pat tg (.inl hh) h7) (fun s H C0 cl0 fp T => sndO cond (o.blk hh s H scope C0 cl0 fp T) ifs h10) (fun s H C0 cl0 fp T => sndE elt (o.blk hh s H scope C0 cl0 fp T) y h9 h8)
    · cases h
theorem sndL : ∀ (es : List E) {X : Cx} {W : WX} {c : Ck} {sc : Scope} {C : Bx} (o : XO X W c sc C cl Γ G) (xs : List Expr), chkL c sc es xs = true → PEs X xs (es.map fun x => tP C cl W (evP Γ G x))
  | [], _, _, _, _, _, o, xs, h => by
    cases xs with
    | nil => exact .nil
    | cons _ _ => simp [chkL] at h
  | e :: es, _, _, _, _, _, o, xs, h => by
    cases xs with
    | nil => simp [chkL] at h
    | cons x xs =>
      simp only [chkL, Bool.and_eq_true] at h
      exact .cons h.1.1 tP_mono (snd_P o (fun hr => sndE e o x h.1.2 hr) h.1.2) (sndL es o xs h.2)
theorem sndB : ∀ (lo : Option E) {X : Cx} {W : WX} {c : Ck} {sc : Scope} {C : Bx} (o : XO X W c sc C cl Γ G) (l : Option Expr), chkB c sc lo l = true → PO X l (tO C cl W (evB Γ G lo))
  | none, _, _, _, _, _, o, l, h => snd_b none l (fun _ _ q => by cases q) h
  | some e, _, _, _, _, _, o, l, h => by
    cases l with
    | none => simp [chkB] at h
    | some x =>
      have h' := h
      simp only [chkB, Bool.and_eq_true, Bool.not_eq_true'] at h'
      have hx := sndE e o x h'.2 h'.1.2
      exact snd_b (some e) (some x) (fun _ _ q1 q2 => by cases q1; cases q2; exact hx) h
theorem sndO : ∀ (cond : Option E) {X : Cx} {W : WX} {c : Ck} {sc : Scope} {C : Bx} (o : XO X W c sc C cl Γ G) (ifs : List Expr), chkO c sc cond ifs = true → PTs X ifs (tK C cl W (evC Γ G cond))
  | none, _, _, _, _, _, o, ifs, h => by
    cases ifs with
    | cons _ _ => simp [chkO] at h
    | nil =>
      refine ⟨fun pins s σ H Q I hq => pts_nil.run pins s σ H Q I ?_⟩
      obtain ⟨e, F, R, p⟩ := hq
      simp only [evC] at p
      exact p H F (.refl _ _) R
  | some e, _, _, _, _, _, o, ifs, h => by
    match ifs, h with
    | [x], h => exact pts_one (sndT e o x (by simpa only [chkO] using h))
    | [], h => simp [chkO] at h
    | _ :: _ :: _, h => simp [chkO] at h
theorem sndT : ∀ (ie : E) {X : Cx} {W : WX} {c : Ck} {sc : Scope} {C : Bx} (o : XO X W c sc C cl Γ G) (x : Expr), chkT c sc ie x = true → PT X x (tK C cl W fun e => toB (evE Γ G ie e))
  | .and a b, _, _, _, _, _, o, x, h => by
    simp only [chkT] at h
    split at h
    · simp only [Bool.and_eq_true] at h
      exact sndT_and (sndT a o _ h.1) (pw_and1 (sndT b o _ h.2))
    · simp only [Bool.and_eq_true] at h
      exact sndT_and (sndT a o _ h.1) (pw_of_pt (sndT b o _ h.2))
    · cases h
  | .or a b, _, _, _, _, _, o, x, h => by
    simp only [chkT] at h
    split at h
    · simp only [Bool.and_eq_true] at h
      exact sndT_or (sndT a o _ h.1) (pw_or1 (sndT b o _ h.2))
    · simp only [Bool.and_eq_true] at h
      exact sndT_or (sndT a o _ h.1) (pw_of_pt (sndT b o _ h.2))
    · cases h
  | .not a, _, _, _, _, _, o, x, h => by
    simp only [chkT] at h
    split at h
    · exact sndT_not (sndT a o _ h)
    · cases h
  | .truth a, _, _, _, _, _, o, x, h => by
    simp only [chkT, Bool.and_eq_true] at h
    exact sndT_truth o h.1 h.2 (fun hr => sndE a o x h.2 hr)
  | .pr p es, _, _, _, _, _, o, x, h => by
    simp only [chkT, Bool.and_eq_true, Bool.or_eq_true, Bool.not_eq_true'] at h
    obtain ⟨⟨hh, h1⟩, h2⟩ := h
    split at h2
    · rename_i xs hs
      rcases h1 with h1 | h1
      · exact snd_leaf h1 (snd_pr o hh hs (sndL es o xs h2))
      · split at h1
        · exact sndT_pr o hs (sndL es o xs h2)
        · cases h1
    · cases h2
  | .chain c1 c2 a b d, _, _, _, _, _, o, x, h => by
    simp only [chkT] at h
    split at h
    · simp only [Bool.and_eq_true, Bool.not_eq_true'] at h
      obtain ⟨⟨⟨⟨⟨⟨⟨⟨⟨⟨h1, h2⟩, h3⟩, h4⟩, h5⟩, h6⟩, h7⟩, h8⟩, h9⟩, h10⟩, h11⟩ := h
      exact (pt_chain (cmpOf_op o h1) (cmpOf_op o h2) (snd_val (sndE a o _ h9 h6)) (snd_val (sndE b o _ h10 h7)) (snd_val (sndE d o _ h11 h8)) (mark_ok h5 _)).imp fun σ H Q hq => chain_of o (tK_of hq)
    · cases h
  | .v i, _, _, _, _, _, o, x, h => by
    simp only [chkT, Bool.and_eq_true] at h
    exact snd_leaf h.1 (snd_v o h.2)
  | .k d, _, _, _, _, _, o, x, h => by
    simp only [chkT, Bool.and_eq_true] at h
    exact snd_leaf h.1 (snd_k h.2)
  | .callx _ _ _, _, _, _, _, _, o, x, h => by simp [chkT] at h
  | .isi _ _ _, _, _, _, _, _, o, x, h => by simp [chkT] at h
  | .call f es, _, _, _, _, _, o, x, h => by
    simp only [chkT] at h
    split at h
    · simp only [Bool.and_eq_true, decide_eq_true_eq] at h
      obtain ⟨⟨⟨⟨⟨h1, h2⟩, h3⟩, h4⟩, hq⟩, h5⟩ := h
      exact snd_leaf rfl (snd_call o h1 h2 h3 h4 hq (sndL es o _ h5))
    · cases h
  | .mv i, _, _, _, _, _, o, x, h => by simp [chkT] at h
  | .fz i, _, _, _, _, _, o, x, h => by simp [chkT] at h
  | .rd i, _, _, _, _, _, o, x, h => by simp [chkT] at h
  | .g i, _, _, _, _, _, o, x, h => by simp [chkT] at h
  | .ite _ _ _, _, _, _, _, _, o, x, h => by simp [chkT] at h
  | .slc _ _ _, _, _, _, _, _, o, x, h => by simp [chkT] at h
  | .meth _ _ _, _, _, _, _, _, o, x, h => by simp [chkT] at h
  | .mu _ _ _, _, _, _, _, _, o, x, h => by simp [chkT] at h
  | .comp _ _ _ _ _ _, _, _, _, _, _, o, x, h => by simp [chkT] at h
end
end
end Mini

set_option Elab.async false
set_option linter.all false
set_option maxRecDepth 100000
/-! Mini: statements. -/
namespace Mini
open PySem PySem.Spec PyProof.Rows L2

def PostS (C : Bx) (cl : Cl) (W : WX) (σ : L2.St) (H : Hp) (F : Fz) (r : SR) (D : Ends) : Prop :=
  match r with
  | .bad => False
  | .nx e => ∀ σ' H' F', Grow H F H' F' → Rel C e σ' H' F' → D.nx σ' H'
  | .ret o e => ∀ σ' H' F' v, Grow H F H' F' → Rel C e σ' H' F' → OutOk C e σ' H' F' v o → D.rt v H'
  | .brk e => ∀ σ' H' F', Grow H F H' F' → Rel C e σ' H' F' → D.bk σ' H'
  | .cnt e => ∀ σ' H' F', Grow H F H' F' → Rel C e σ' H' F' → D.ct σ' H'
  | .exc x e => ∀ σ' H' F', Grow H F H' F' → Rel C e σ' H' F' → ∀ cls d, ExOk cl x cls d H' F' → W cls d σ' H'
def tS (C : Bx) (cl : Cl) (W : WX) (r : Ev → SR) : TS := fun D σ H => ∃ e F, Rel C e σ H F ∧ PostS C cl W σ H F (r e) D
section
variable {C : Bx} {cl : Cl} {W : WX} {σ σ1 : L2.St} {H H' : Hp} {F F' : Fz} {D : Ends}
theorem PostS.up {r : SR} (p : PostS C cl W σ H F r D) (g : Grow H F H' F') : PostS C cl W σ1 H' F' r D := by
  cases r with
  | bad => exact p
  | nx e => exact fun s h f g2 R => p s h f (g.trans g2) R
  | ret o e => exact fun s h f v g2 R => p s h f v (g.trans g2) R
  | brk e => exact fun s h f g2 R => p s h f (g.trans g2) R
  | cnt e => exact fun s h f g2 R => p s h f (g.trans g2) R
  | exc x e => exact fun s h f g2 R => p s h f (g.trans g2) R
/-- behind an expression -/
theorem PostS.of {α : Type} {r : Res α} {k : α → Ev → SR} (p : PostS C cl W σ H F (SR.of r k) D) : Post C cl W σ H F r (fun a e H' F' => PostS C cl W σ H' F' (k a e) D) := by
  cases r with
  | bad => exact p
  | ok a e => exact fun H' F' g R => PostS.up p g
  | exc x e => exact fun H' F' g R => p σ H' F' g R
theorem PostS.ofO {r : Option Ev} (p : PostS C cl W σ H F (SR.ofO r) D) : ∃ e, r = some e ∧ ∀ σ' H' F', Grow H F H' F' → Rel C e σ' H' F' → D.nx σ' H' := by
  cases r with
  | none => exact False.elim p
  | some e => exact ⟨e, rfl, p⟩
end
section
variable {X : Cx}
theorem ps_imp {s : Stmt} {t t' : TS} (h : PS X s t) (i : ∀ D σ H, t' D σ H → t D σ H) : PS X s t' := ⟨fun pins s σ H D I hq => h.run pins s σ H D I (i D σ H hq)⟩
theorem pss_imp {s : List Stmt} {t t' : TS} (h : PSs X s t) (i : ∀ D σ H, t' D σ H → t D σ H) : PSs X s t' := ⟨fun pins s σ H D I hq => h.run pins s σ H D I (i D σ H hq)⟩
end
/-- what a def's block stands in -/
structure XS (X : Cx) (W : WX) (c : Ck) (sc : Scope) (C : Bx) (cl : Cl) (Γ : List Fn) (G : List D) : Prop where
  xo : XO X W c sc C cl Γ G
  st : StOk X sc
  kind : sc.kind = .function
  passes : PassesOwn (model X.prog X.w) X.A X.env X.xe
  stk : X.stack = X.env :: X.outer
  frm : X.env.frame = some X.env.locals
  cls : ∀ (n : Nat) x, c.cls[n]? = some x → ∃ Cn : Addr, cl n = some (.ref Cn) ∧ (∀ Y : Cx, Y.K = X.K → Y.mg = X.mg → Gl Y x → (x == ("__debug__" : Str)) = false → ∀ m j p p2 pos, L2N.PMk Y (.Call (.Name x p) [.Constant (.str m) j p2] [] pos) (fun _ H Q => Q (.ref Cn) none H))
section
variable {X : Cx} {W : WX} {c : Ck} {sc : Scope} {C : Bx} {cl : Cl} {Γ : List Fn} {G : List D}
/-- one target -/
def gO (C : Bx) (p : Pat) : TG := fun v σ H Q => ∃ e F o e', Rel C e σ H F ∧ OutOk C e σ H F v o ∧ putOut p o e = some e' ∧ ∀ σ' H' F', Grow H F H' F' → Rel C e' σ' H' F' → Q σ' H'
theorem gO_nm {i : Nat} {v : V} {σ : L2.St} {H : Hp} {Q : L2.St → Hp → Prop} (h : gO C (.nm i) v σ H Q) : gName i v σ H Q := by
  obtain ⟨e, F, o, e', R, ok, hp, q⟩ := h
  cases o with
  | val d =>
    simp only [putOut, put] at hp
    split at hp
    · cases hp
    · rename_i nb
      split at hp
      · rename_i hi
        cases hp
        exact q _ H F (.refl _ _) (R.store hi nb ⟨v, rfl, ok⟩ (fun _ z => by cases z) (fun _ _ z => by cases z))
      · cases hp
  | own d =>
    simp only [putOut] at hp
    split at hp
    · cases hp
    · rename_i nb
      split at hp
      · rename_i hi
        cases hp
        obtain ⟨a, rfl, t, hf, h0, hs, hpn⟩ := ok
        exact q _ H F (.refl _ _) (R.store hi nb ⟨a, rfl, t, hf, h0⟩ (fun _ z => by cases z) (fun b z _ => by cases z; exact ⟨hs, hpn⟩))
      · cases hp
theorem snd_gO (o : XS X W c sc C cl Γ G) {p : Pat} {tg : Expr} (hh : c.hot = false ∨ p.isNm = true) (h : chkPat c sc p tg = true) : PG X tg (gO C p) := by
  cases p with
  | nm i =>
    cases tg <;> first
      | (simp [chkPat] at h; done)
      | skip
    rename_i n pos
    simp only [chkPat, Bool.and_eq_true, decide_eq_true_eq] at h
    have hl := o.st n h.2
    exact pg_imp (pg_name o.xo.nd (by rw [o.xo.N]; exact h.1) hl.1 hl.2) fun v σ H Q hq => gO_nm hq
  | tup ps =>
    refine pg_imp (snd_pat o.xo o.st _ tg hh h) fun v σ H Q hq => ?_
    obtain ⟨e, F, out, e', R, ok, hp, q⟩ := hq
    obtain ⟨F2, g2, R2, rv⟩ := ok.frozen R
    have hp' : put (.tup ps) out.d e = some e' := by cases out <;> exact hp
    exact ⟨e, F2, out.d, e', R2, rv, hp', fun σ' R' _ => q σ' H F2 g2 R'⟩
theorem noComp {x : Expr} (h : isComp x = false) (t : Option Expr) (l : Nat) (env : PySem.Env) : swapsWith x t l env = pure false := by
  cases x <;> first | rfl | (cases h; done)
theorem noComp' {x tg : Expr} (h : isComp x = false) (l : Nat) (env : PySem.Env) : swapsWithSole [tg] x l env = pure false := noComp h _ _ _
theorem sw_comp {elt : Expr} {gs : List Comprehension} {s : Scope} {p tp : Pos} {t : Str} {l : Nat} (o : XS X W c sc C cl Γ G) : swapsWith (.ListComp elt gs s p) (some (.Name t tp)) l X.env = pure (swC sc (.Name t tp) (.ListComp elt gs s p)) := by
  have hk : X.env.scope.kind = .function := by rw [o.xo.sc]; exact o.kind
  have hb : X.env.blockKind = .function := by unfold Env.blockKind; rw [hk]; rfl
  have ht : X.env.kindOf t = sc.names.lookup t := by rw [← o.xo.sc]; rfl
  unfold swapsWith swC
  simp only [hb, ht, Expr.pos]
  cases hl : sc.names.lookup t with
  | none => rfl
  | some k => cases k <;> rfl
theorem swN_ok (o : XS X W c sc C cl Γ G) {tg e : Expr} {r : Option (List Str)} (h : swN sc tg e = some r) : swappedStores [tg] e X.env = pure r := by
  have hk : X.env.scope.kind = .function := by rw [o.xo.sc]; exact o.kind
  have hb : X.env.blockKind = .function := by unfold Env.blockKind; rw [hk]; rfl
  have es := o.xo.sc
  subst es
  have gen : ∀ {ts vs : List Expr} {k k2 : Nat} {pt p2 : Pos}, swT X.env.scope ts vs = some r → swappedStores [.Tuple ts k pt] (.Tuple vs k2 p2) X.env = pure r := by
    intro ts vs k k2 pt p2 h
    have key : swappedStores [.Tuple ts k pt] (.Tuple vs k2 p2) X.env = (if (!(ts.length == 2 || ts.length == 3) || vs.length != ts.length || X.env.blockKind != .function) = true then pure none
      else if vs.any starred = true then pure none
      else if ((ts.filterMap (nmLoc X.env.scope ((ts.head?.map (·.pos.line)).getD 0))).length != ts.length || (ts.filterMap (nmLoc X.env.scope ((ts.head?.map (·.pos.line)).getD 0))).eraseDups.length != (ts.filterMap (nmLoc X.env.scope ((ts.head?.map (·.pos.line)).getD 0))).length) = true then pure none
      else if vs.all (foldedForSure 8) = true then pure none
      else if vs.all (constantsAlone 8) = true then (do unsupported "assign.tuple-of-constant-expressions:order-of-the-stores"; pure (some (ts.filterMap (nmLoc X.env.scope ((ts.head?.map (·.pos.line)).getD 0)))))
      else pure (some (ts.filterMap (nmLoc X.env.scope ((ts.head?.map (·.pos.line)).getD 0))))) := by
      rfl
    rw [key, hb]
    unfold swT at h
    split at h
    · rename_i h1
      cases h
      rw [if_pos (by rw [h1]; rfl)]
    · rename_i h1
      rw [if_neg (fun z => by rw [Bool.or_eq_true] at z; exact z.elim h1 (fun z => by cases z))]
      split at h
      · rename_i h2
        cases h
        rw [if_pos h2]
      · rename_i h2
        rw [if_neg h2]
        split at h
        · rename_i h3
          cases h
          rw [if_pos h3]
        · rename_i h3
          rw [if_neg h3]
          split at h
          · rename_i h4
            cases h
            rw [if_pos h4]
          · rename_i h4
            rw [if_neg h4]
            split at h
            · cases h
            · rename_i h5
              cases h
              rw [if_neg h5]
  cases tg <;> first
    | (cases e <;> first
        | exact gen h
        | (cases h; rfl))
    | (cases h; rfl)
    | (cases h; done)
end
end Mini

set_option Elab.async false
set_option linter.all false
set_option maxRecDepth 100000
/-! Mini: statements, one after another. -/
namespace Mini
open PySem PySem.Spec PyProof.Rows L2
section
variable {X : Cx} {W : WX} {c : Ck} {sc : Scope} {C : Bx} {cl : Cl} {Γ : List Fn} {G : List D}
/-- target = value -/
theorem asg_of {p : Pat} {e : E} {D : Ends} {σ : L2.St} {H : Hp} (h : tS C cl W (evS Γ G (.set p e)) D σ H) : tE C cl W (evE Γ G e) σ H (fun v H1 => gO C p v σ H1 D.nx) := by
  obtain ⟨ev, F, R, q⟩ := h
  simp only [evS] at q
  refine ⟨ev, F, R, Post.mono (PostS.of q) fun o e1 H1 F1 g1 R1 q1 v hv => ?_⟩
  obtain ⟨e2, h2, q2⟩ := PostS.ofO q1
  exact ⟨e1, F1, o, e2, R1, hv, h2, q2⟩
theorem snd_set (o : XS X W c sc C cl Γ G) {p : Pat} {e : E} {s : Stmt} (h : chkS c sc (.set p e) s = true) : PS X s (tS C cl W (evS Γ G (.set p e))) := by
  simp only [chkS] at h
  split at h
  · rename_i tg x pos
    simp only [Bool.and_eq_true, Bool.or_eq_true, Bool.not_eq_true', decide_eq_true_eq] at h
    obtain ⟨⟨⟨⟨⟨⟨⟨h0, h1⟩, h2⟩, h3⟩, h4⟩, h5⟩, h6⟩, h7⟩ := h
    have plain : swapsWithSole [tg] x pos.line X.env = pure false → PS X (.Assign [tg] x pos) (tS C cl W (evS Γ G (.set p e))) := fun hs =>
      ps_imp (ps_asg (sndE e o.xo x h5 h4) (snd_gO o h0 h3) hs (swN_ok o h6) (by rw [assignEach_cons h1]; rfl)) fun D σ H hq => asg_of hq
    rcases h7 with h7 | h7
    · exact plain (noComp' h7 _ _)
    · split at h7
      · rename_i i own pat it src cond elt t tp y gs scope cp
        have hsw := sw_comp (elt := y) (gs := gs) (s := scope) (p := cp) (t := t) (tp := tp) (l := pos.line) o
        cases hb : swC sc (.Name t tp) (.ListComp y gs scope cp) with
        | false => rw [hb] at hsw; exact plain hsw
        | true =>
          rw [hb] at hsw
          have h3' := h3
          simp only [chkPat, Bool.and_eq_true, decide_eq_true_eq] at h3'
          have hl : X.env.scope.names.lookup t = some .local := by
            rw [o.xo.sc]
            unfold swC at hb
            simp only [Bool.and_eq_true] at hb
            have := hb.1.1
            split at this
            · assumption
            · cases this
          simp only [chkE] at h5
          split at h5
          · rename_i y' tg' iter ifs scope' pos' heq
            cases heq
            simp only [Bool.and_eq_true, decide_eq_true_eq, Bool.not_eq_true', List.all_eq_true, List.contains_eq_mem] at h5
            obtain ⟨⟨⟨⟨⟨⟨⟨⟨⟨⟨⟨hh, k1⟩, k2⟩, k3⟩, k4⟩, k5⟩, k6⟩, k7⟩, k8⟩, k9⟩, k10⟩, k11⟩ := h5
            have hPI : PI X tg' iter (tIt C cl W it (evO Γ G src)) := by
              split at k11
              · rename_i xs hs
                exact it_form o.xo hs k6 (sndL src o.xo xs k11)
              · cases k11
            refine ps_imp (ps_setLc (o.xo.calm hh) o.xo.nd (by rw [o.xo.N]; exact h3'.1) hl hsw hPI (blkOk_by (by rw [o.xo.N, o.xo.sc]; exact k1))
              (fun s H C0 cl0 fp => gB_pg fun T => snd_pat (o.xo.blk hh s H scope C0 cl0 fp T) (StOk.blk s H scope C0 cl0 fp) pat tg' (.inl hh) k7)
              (fun s H C0 cl0 fp => tB_pts fun T => sndO cond (o.xo.blk hh s H scope C0 cl0 fp T) ifs k10)
              (fun s H C0 cl0 fp => tE_pe fun T => sndE elt (o.xo.blk hh s H scope C0 cl0 fp T) y k9 k8) (fold_ok k6 _)) fun D σ H hq => ?_
            exact comp_of o.xo k2 k3 (tE_mono.m σ H _ _ (fun v H1 q => gO_nm q) (asg_of hq))
          · cases h5
      · exact plain rfl
      · cases h7
  · cases h
theorem seqT_map_mono : ∀ {es : List E} {σ : L2.St} {H : Hp} {Q Q' : List V → Hp → Prop}, (∀ vs H', Q vs H' → Q' vs H') → seqT (es.map fun x => tP C cl W (evP Γ G x)) σ H Q → seqT (es.map fun x => tP C cl W (evP Γ G x)) σ H Q'
  | [], σ, H, Q, Q', h, q => h _ _ q
  | e :: es, σ, H, Q, Q', h, q => tP_mono.m σ H _ _ (fun v H1 q1 => seqT_map_mono (es := es) (fun vs H2 => h (v :: vs) H2) q1) q
theorem valsOf_rep {σ : L2.St} {H : Hp} {F : Fz} : ∀ {vs : List V} {os : List Opd} {ds : List D}, OpsOk C σ H F vs os → valsOf os = some ds → RepL C.K H F vs ds
  | _, _, ds, .nil, h => by cases h; exact .nil
  | _, _, ds, .cons (o := .dv d) r t, h => by
    simp only [valsOf, Option.map_eq_some_iff] at h
    obtain ⟨ds', h1, rfl⟩ := h
    exact .cons r (valsOf_rep t h1)
  | _, _, ds, .cons (o := .sl i) r t, h => by cases h
/-- a value is put into a name -/
theorem Rel.put1 {e e' : Ev} {σ : L2.St} {H : Hp} {F : Fz} {i : Nat} {v : V} {d : D} (R : Rel C e σ H F) (r : Rep C.K H F v d) (h : put (.nm i) d e = some e') : Rel C e' (σ.set i (some v)) H F := by
  simp only [put] at h
  split at h
  · cases h
  · rename_i nb
    split at h
    · rename_i hi
      cases h
      exact R.store hi nb ⟨v, rfl, r⟩ (fun _ z => by cases z) (fun _ _ z => by cases z)
    · cases h
theorem par_of {is : List Nat} {es : List E} {D : Ends} {σ : L2.St} {H : Hp} (h : tS C cl W (evS Γ G (.par is es)) D σ H) :
    seqT (es.map fun x => tP C cl W (evP Γ G x)) σ H (fun vs H1 => ∃ e F ds e', Rel C e σ H1 F ∧ RepL C.K H1 F vs ds ∧ parPut is ds e = some e' ∧ ∀ σ', Rel C e' σ' H1 F → D.nx σ' H1) := by
  obtain ⟨ev, F, R, q⟩ := h
  simp only [evS] at q
  refine seqT_of es σ H _ ⟨ev, F, R, Post.mono (PostS.of q) fun os e1 H1 F1 g1 R1 q1 vs hvs => ?_⟩
  split at q1
  · rename_i ds hds
    obtain ⟨e2, h2, q2⟩ := PostS.ofO q1
    exact ⟨e1, F1, ds, e2, R1, valsOf_rep hvs hds, h2, fun σ' R' => q2 σ' H1 F1 (.refl _ _) R'⟩
  · exact False.elim q1
theorem parPut2 {i j : Nat} {vs : List V} {ds : List D} {e e' : Ev} {σ : L2.St} {H : Hp} {F : Fz} (R : Rel C e σ H F) (r : RepL C.K H F vs ds) (h : parPut [i, j] ds e = some e') : ∃ v w, vs = [v, w] ∧ Rel C e' ((σ.set i (some v)).set j (some w)) H F := by
  cases r with
  | nil => cases h
  | cons r1 r2 =>
    unfold parPut at h
    split at h
    · rename_i e1 h1
      cases r2 with
      | nil => cases h
      | cons r2 r3 =>
        unfold parPut at h
        split at h
        · rename_i e2 h2
          cases r3 with
          | nil => cases h; exact ⟨_, _, rfl, (R.put1 r1 h1).put1 r2 h2⟩
          | cons _ _ => cases h
        · cases h
    · cases h
theorem parPut3 {i j l : Nat} {vs : List V} {ds : List D} {e e' : Ev} {σ : L2.St} {H : Hp} {F : Fz} (R : Rel C e σ H F) (r : RepL C.K H F vs ds) (h : parPut [i, j, l] ds e = some e') : ∃ u v w, vs = [u, v, w] ∧ Rel C e' (((σ.set i (some u)).set j (some v)).set l (some w)) H F := by
  cases r with
  | nil => cases h
  | cons r1 r2 =>
    unfold parPut at h
    split at h
    · rename_i e1 h1
      obtain ⟨v, w, rfl, R2⟩ := parPut2 (R.put1 r1 h1) r2 h
      exact ⟨_, v, w, rfl, R2⟩
    · cases h
theorem isLoc_inv {i : Nat} {x : Str} (h : isLoc c sc i x = true) : c.N[i]? = some x ∧ sc.names.lookup x = some .local := by
  unfold isLoc at h
  simpa using h
theorem snd_par (o : XS X W c sc C cl Γ G) {is : List Nat} {es : List E} {s : Stmt} (h : chkS c sc (.par is es) s = true) : PS X s (tS C cl W (evS Γ G (.par is es))) := by
  simp only [chkS, Bool.and_eq_true, Bool.not_eq_true'] at h
  obtain ⟨hh, h⟩ := h
  split at h
  · rename_i xs hx
    have hp := sndL es o.xo xs h
    unfold parC at hx
    split at hx
    · rename_i i j
      unfold par2C at hx
      split at hx
      · split at hx
        · rename_i hc
          simp only [Bool.and_eq_true, decide_eq_true_eq] at hc
          obtain ⟨⟨⟨h1, h2⟩, h3⟩, h4⟩ := hc
          cases hx
          have l1 := isLoc_inv h1
          have l2 := isLoc_inv h2
          refine ps_imp (ps_par (o.xo.calm hh) o.xo.nd (by rw [o.xo.N]; exact l1.1) (by rw [o.xo.N]; exact l2.1) h3 (by rw [o.xo.sc]; exact l1.2) (by rw [o.xo.sc]; exact l2.2) hp.pa (swN_ok o h4) rfl) fun D σ H hq => ?_
          refine seqT_map_mono (fun vs H1 q => ?_) (par_of hq)
          obtain ⟨e, F, ds, e', R, r, hpp, q⟩ := q
          obtain ⟨v, w, rfl, R2⟩ := parPut2 R r hpp
          exact ⟨v, w, rfl, q _ R2⟩
        · cases hx
      · cases hx
    · rename_i i j l
      unfold par3C at hx
      split at hx
      · split at hx
        · rename_i hc
          simp only [Bool.and_eq_true, decide_eq_true_eq] at hc
          obtain ⟨⟨⟨⟨⟨⟨h1, h2⟩, h3⟩, h4⟩, h5⟩, h6⟩, h7⟩ := hc
          cases hx
          have l1 := isLoc_inv h1
          have l2 := isLoc_inv h2
          have l3 := isLoc_inv h3
          refine ps_imp (ps_par3 (o.xo.calm hh) o.xo.nd (by rw [o.xo.N]; exact l1.1) (by rw [o.xo.N]; exact l2.1) (by rw [o.xo.N]; exact l3.1) h4 h5 h6 (by rw [o.xo.sc]; exact l1.2) (by rw [o.xo.sc]; exact l2.2) (by rw [o.xo.sc]; exact l3.2) hp.pa (swN_ok o h7) rfl) fun D σ H hq => ?_
          refine seqT_map_mono (fun vs H1 q => ?_) (par_of hq)
          obtain ⟨e, F, ds, e', R, r, hpp, q⟩ := q
          obtain ⟨u, v, w, rfl, R2⟩ := parPut3 R r hpp
          exact ⟨u, v, w, rfl, q _ R2⟩
        · cases hx
      · cases hx
    · cases hx
  · cases h
/-! ### x op= e -/
def rAg (K : PySem.W.Frag) (p : Pr) : TIp := fun x y H Q => ∃ F a b d, Rep K H F x a ∧ Rep K H F y b ∧ (∀ a, F a → H a ≠ none) ∧ prim p [a, b] = some (.val d) ∧ ∀ v, Rep K H F v d → Q v H
theorem aug_op {p : Pr} {op : Operator} (h : augOf p op = true) : PIp X op (rAg X.K p) := by
  cases p <;> cases op <;> first
    | (cases h; done)
    | skip
  · intro pins s σ H x y v u Q I rx ry hq
    obtain ⟨F, a, b, d, ra, rb, t, e, q⟩ := hq
    cases a <;> cases b <;> simp [prim] at e
    case int.int i j =>
      subst e
      exact iop_add pins s σ H x y v u Q I rx ry ⟨i, j, (ra.rv (n := 0)).int, (rb.rv (n := 0)).int, q _ (.int _)⟩
    case str.str i j =>
      obtain ⟨hl, rfl⟩ := e
      obtain ⟨e1, s1⟩ := (ra.rv (n := 0)).str
      obtain ⟨e2, s2⟩ := (rb.rv (n := 0)).str
      refine iop_add_str pins s σ H x y v u Q I rx ry ⟨sOf i, sOf j, e1, e2, by rw [sOf_length, sOf_length, ← SZ_eq]; exact hl, ?_⟩
      rw [sOf_append]
      exact q _ (.str _ (s1.append s2 hl))
  · intro pins s σ H x y v u Q I rx ry hq
    obtain ⟨F, a, b, d, ra, rb, t, e, q⟩ := hq
    cases a <;> cases b <;> simp [prim] at e
    case int.int i j =>
      subst e
      exact iop_sub pins s σ H x y v u Q I rx ry ⟨i, j, (ra.rv (n := 0)).int, (rb.rv (n := 0)).int, q _ (.int _)⟩
theorem snd_aug (o : XS X W c sc C cl Γ G) {i : Nat} {p : Pr} {e : E} {s : Stmt} (h : chkS c sc (.aug i p e) s = true) : PS X s (tS C cl W (evS Γ G (.aug i p e))) := by
  simp only [chkS] at h
  split at h
  · rename_i x px op y pos
    simp only [Bool.and_eq_true, decide_eq_true_eq, Bool.not_eq_true'] at h
    obtain ⟨⟨⟨⟨h1, h2⟩, h3⟩, h4⟩, h5⟩ := h
    have hl := o.st x h3
    refine ps_imp (ps_aug o.xo.nd (by rw [o.xo.N]; exact h2) hl.1 (snd_val (sndE e o.xo y h5 h4)) (aug_op h1) hl.2) fun D σ H hq => ?_
    obtain ⟨ev, F, R, q⟩ := hq
    simp only [evS] at q
    have s0 := R.slot i
    split at q
    · rename_i a ha
      rw [ha] at s0
      obtain ⟨v0, hv0, r0⟩ := s0
      refine ⟨v0, st_some hv0, ev, F, R, Post.mono (PostS.of q) fun b e1 H1 F1 g1 R1 q1 w rw' => ?_⟩
      split at q1
      · rename_i a' d h6 h7
        obtain ⟨e2, h8, q2⟩ := PostS.ofO q1
        rw [o.xo.K]
        exact ⟨F1, a, b, d, r0.grow g1, rw', R1.tr, h7, fun z rz => q2 _ H1 F1 (.refl _ _) (R1.put1 rz h8)⟩
      · exact False.elim q1
    · exact False.elim q
  · cases h
end
end Mini

set_option Elab.async false
set_option linter.all false
set_option maxRecDepth 100000
/-! Mini: a try, its suite. -/
namespace Mini
open PySem PySem.Spec PyProof.Rows L2
section
variable {C : Bx} {cl : Cl} {W : WX} {σ : L2.St} {H : Hp} {F : Fz} {e : Ev}
theorem clear_at (h : e.clear = true) (i : Nat) (x : Ex) : e.at i ≠ .err x := by
  intro q
  have hi : i < e.length := Ev.at_lt (by rw [q]; simp)
  unfold Ev.clear at h
  rw [List.all_eq_true] at h
  have e1 : e.at i = e[i] := by
    unfold Ev.at
    rw [List.getD_eq_getElem?_getD, List.getElem?_eq_getElem hi]; rfl
  have := h e[i] (List.getElem_mem hi)
  rw [← e1, q] at this
  cases this
/-- what is handled changes, no place bears it -/
theorem Rel.er {z : Option (Addr × Ex)} (R : Rel C e σ H F) (h : e.clear = true) : Rel { C with er := z } e σ H F where
  len := R.len
  fz := R.fz
  fz' := R.fz'
  tr := R.tr
  keep := R.keep
  lent := R.lent
  apart := R.apart
  pin := R.pin
  slot := fun i => by
    have s := R.slot i
    cases q : e.at i <;> rw [q] at s <;> first
      | exact s
      | exact absurd q (clear_at h i _)
/-- a place is emptied, its name is gone -/
theorem Rel.gone {i : Nat} (R : Rel C e σ H F) (nb : ∀ d, e.at i ≠ .bor d) : Rel C (e.set i .no) (σ.set i none) H F := by
  have D := R.drop nb
  have other : ∀ j : Nat, j ≠ i → (σ.set i none).getD j none = σ.getD j none := fun j hj => by rw [st_set, if_neg (fun q => hj q.1.symm)]
  have own : Ev.at (e.set i .no) i = .no := by
    rw [Ev.at_set]
    split
    · rfl
    · rename_i q
      unfold Ev.at
      rw [List.getD_eq_getElem?_getD, List.getElem?_eq_none (by omega)]; rfl
  have ne : ∀ j : Nat, (Ev.at (e.set i .no) j).listy = true → j ≠ i := fun j hl z => by rw [z, own] at hl; cases hl
  refine ⟨by rw [List.length_set, List.length_set]; exact R.len, D.fz, D.fz', D.tr, D.keep, D.lent, fun j => ?_, fun j k a hjk hm hl h1 h2 => ?_, fun p hp => ⟨(D.pin p hp).1, (D.pin p hp).2.1, fun j hj => ?_⟩⟩
  · by_cases z : j = i
    · rw [z, own]; trivial
    · rw [other j z]; exact D.slot j
  · have zj : j ≠ i := ne j (by cases q : Ev.at (e.set i .no) j <;> rw [q] at hm <;> first | (cases hm; done) | rfl)
    rw [other j zj] at h1
    rw [other k (ne k hl)] at h2
    exact D.apart j k a hjk hm hl h1 h2
  · rw [other j (ne j hj)]
    exact (D.pin p hp).2.2 j hj
/-- behind the suite -/
theorem suite_post {i : Nat} {z : Option (Addr × Ex)} {r : SR} {D : Ends} {σ1 σ2 : L2.St} (h0 : C.er = none) (p : PostS C cl W σ1 H F (suiteEnd (some i) r) D) :
    PostS { C with er := z } cl (fun _ _ _ _ => False) σ2 H F r { nx := fun σ' H' => D.nx (σ'.set i none) H', rt := D.rt, bk := fun σ' H' => D.bk (σ'.set i none) H', ct := fun σ' H' => D.ct (σ'.set i none) H' } := by
  have back : ∀ {e e2 : Ev} {σ' : L2.St} {H' : Hp} {F' : Fz}, dropE (some i) e = some e2 → Rel { C with er := z } e σ' H' F' → e2 = e.set i .no ∧ Rel C e2 (σ'.set i none) H' F' := by
    intro e e2 σ' H' F' he R
    unfold dropE at he
    dsimp only at he
    split at he
    · rename_i x hx
      split at he
      · rename_i hc
        cases he
        have R3 := (R.gone (i := i) fun d w => by rw [hx] at w; cases w).er (z := none) hc
        have ec : ({ { C with er := z } with er := none } : Bx) = C := by cases C; dsimp only at h0; rw [h0]
        rw [ec] at R3
        exact ⟨rfl, R3⟩
      · cases he
    · cases he
  have gr : ∀ {H' : Hp} {F' : Fz}, Grow H F H' F' → Grow H F H' F' := fun g => g
  cases r with
  | bad => exact False.elim p
  | exc x e => exact False.elim p
  | nx e =>
    simp only [suiteEnd] at p
    split at p
    · rename_i e2 he
      exact fun σ' H' F' g R => p _ H' F' g (back he R).2
    · exact False.elim p
  | brk e =>
    simp only [suiteEnd] at p
    split at p
    · rename_i e2 he
      exact fun σ' H' F' g R => p _ H' F' g (back he R).2
    · exact False.elim p
  | cnt e =>
    simp only [suiteEnd] at p
    split at p
    · rename_i e2 he
      exact fun σ' H' F' g R => p _ H' F' g (back he R).2
    · exact False.elim p
  | ret o e =>
    simp only [suiteEnd] at p
    split at p
    · rename_i e2 he
      intro σ' H' F' v g R hv
      obtain ⟨rfl, R2⟩ := back he R
      refine p _ H' F' v g R2 ?_
      cases o with
      | val d => exact hv
      | own d =>
        obtain ⟨a, rfl, t1, t2, t3, t4, t5⟩ := hv
        refine ⟨a, rfl, t1, t2, t3, fun j hj q => ?_, t5⟩
        rw [st_set] at q
        split at q
        · cases q
        · rw [Ev.at_set] at hj
          split at hj
          · cases hj
          · exact t4 j hj q
    · exact False.elim p
end
section
variable {X : Cx} {W : WX} {c : Ck} {sc : Scope} {C : Bx} {cl : Cl} {Γ : List Fn} {G : List D}
theorem XS.tr (o : XS X W c sc C cl Γ G) {W' : WX} {pn : List (Addr × Obj)} {xe : Value → Shared → Prop} (hh : c.hot = false) (tk : L2N.Takes (X.tr pn xe) W') (ps : PassesOwn (model X.prog X.w) X.A X.env xe) : XS (X.tr pn xe) W' c sc C cl Γ G where
  xo := {
    K := o.xo.K
    N := o.xo.N
    nd := o.xo.nd
    sc := o.xo.sc
    calm := o.xo.calm
    un := o.xo.un
    gd := o.xo.gd
    er0 := o.xo.er0
    er := fun z => by rw [hh] at z; cases z
    tk := tk
    ecl := o.xo.ecl
    kit := o.xo.kit
    clb := o.xo.clb
    nob := o.xo.nob
    glob := o.xo.glob
    fnl := o.xo.fnl
    fn := fun i fn x h1 h2 h3 h4 => ⟨(o.xo.fn i fn x h1 h2 h3 h4).ex, (o.xo.fn i fn x h1 h2 h3 h4).exH⟩ }
  st := o.st
  kind := o.kind
  passes := ps
  stk := o.stk
  frm := o.frm
  cls := o.cls
theorem XS.suite (o : XS X W c sc C cl Γ G) (hh : c.hot = false) {a : Addr} {oe : Obj} {x : Ex} {Dd : Addr} (pn : List (Addr × Obj)) (h1 : cl x.cls = some (.ref Dd)) (hz : L2N.Zn (.ref Dd) none oe) (hf : ∃ vs, oe.data = .fields vs) :
    XS (X.suite a ((a, oe) :: pn)) (fun _ _ _ _ => False) { c with hot := true } sc { C with er := some (a, x) } cl Γ G where
  xo := {
    K := o.xo.K
    N := o.xo.N
    nd := o.xo.nd
    sc := o.xo.sc
    calm := fun z => by cases z
    un := o.xo.un
    gd := fun z => by cases z
    er0 := fun z => by cases z
    er := fun _ => ⟨a, x, oe, rfl, List.mem_cons_self, ⟨rfl, let ⟨vs, hv⟩ := hf; ⟨vs, hv, hz.2.2 vs hv⟩⟩, Dd, h1, hz.zc⟩
    tk := fun _ _ ⟨_, _, _, _, _, _, _, _, _, _, _, _, _, _, _, _, w⟩ => False.elim w
    ecl := o.xo.ecl
    kit := o.xo.kit
    clb := o.xo.clb
    nob := o.xo.nob
    glob := o.xo.glob
    fnl := o.xo.fnl
    fn := fun i fn x h1 h2 h3 h4 => by
      have hot : c.hots.contains i = true := h4.elim id fun z => by cases z
      have has := o.xo.fn i fn x h1 h2 h3 (.inr hh)
      refine ⟨fun z => ?_, fun z => ?_⟩
      · rw [show ({ c with hot := true } : Ck).hots = c.hots from rfl, hot] at z; cases z
      · obtain ⟨k, fa, fd, ps, dvs, dus, hr, q⟩ := has.exH hot
        exact ⟨k, fa, fd, ps, dvs, dus, ⟨hr.dp, hr.un⟩, q⟩ }
  st := o.st
  kind := o.kind
  passes := PassesOwn.never
  stk := o.stk
  frm := o.frm
  cls := o.cls
theorem hdOk_inv {h : List Nat × Option Nat} {x : Str} {nm : Option Str} (q : hdOk c sc h x nm = true) : ∃ m i n, c.cls[m]? = some x ∧ h = (c.under m, some i) ∧ nm = some n ∧ glb sc x = true ∧ nodebug x = true ∧ c.N[i]? = some n ∧ sc.names.lookup n = some .local := by
  unfold hdOk at q
  simp only [Bool.and_eq_true] at q
  obtain ⟨⟨⟨q1, q2⟩, q3⟩, q4⟩ := q
  obtain ⟨h1, h2⟩ := h
  dsimp only at q1 q4
  split at q1
  · rename_i m hm
    have hx : c.cls[m]? = some x := by
      rw [List.findIdx?_eq_some_iff_getElem] at hm
      obtain ⟨ht, h5, _⟩ := hm
      rw [List.getElem?_eq_getElem ht]
      rw [beq_iff_eq] at h5
      rw [h5]
    split at q4
    · rename_i i n
      rw [Bool.and_eq_true] at q4
      obtain ⟨l1, l2⟩ := isLoc_inv q4.1
      exact ⟨m, i, n, hx, by rw [of_decide_eq_true q1], rfl, q2, q3, l1, l2⟩
    · cases q4
  · cases q1
def AllS (P : List S → Prop) : List (List S) → Prop
  | [] => True
  | s :: r => P s ∧ AllS P r
/-- a suite is run as the evaluator says, wherever it stands -/
def SuOk (sc : Scope) (cl : Cl) (Γ : List Fn) (G : List D) (su : List S) : Prop := ∀ (X' : Cx) (W' : WX) (c' : Ck) (C' : Bx), XS X' W' c' sc C' cl Γ G → ∀ xs : List Stmt, chkSs c' sc su xs = true → PSs X' xs (tS C' cl W' (evSs Γ G su))
theorem snd_tryc (o : XS X W c sc C cl Γ G) {body : List S} {hd : List (List Nat × Option Nat)} {suites : List (List S)} {s : Stmt}
    (hb : ∀ {X' : Cx} {W' : WX} (_ : XS X' W' c sc C cl Γ G) (xs : List Stmt), chkSs c sc body xs = true → PSs X' xs (tS C cl W' (evSs Γ G body)))
    (hs : AllS (SuOk sc cl Γ G) suites)
    (h : chkS c sc (.tryc body hd suites) s = true) : PS X s (tS C cl W (evS Γ G (.tryc body hd suites))) := by
  simp only [chkS] at h
  split at h
  · rename_i xs h0 pos
    simp only [Bool.and_eq_true, Bool.not_eq_true'] at h
    obtain ⟨⟨hh, h1⟩, h2⟩ := h
    match suites, hd, h2, hs with
    | [su], [h], h2, hs =>
      simp only [chkHs, Bool.and_eq_true] at h2
      obtain ⟨h2, _⟩ := h2
      split at h2
      · rename_i y np nm t0 ts p2 hx0
        rw [Bool.and_eq_true] at h2
        obtain ⟨m, i, n, k1, rfl, rfl, k4, k5, k6, k7⟩ := hdOk_inv h2.1
        obtain ⟨Cm, c1, c2⟩ := o.xo.ecl m y k1
        have h0 := o.xo.er0 hh
        refine ps_imp (L2N.ps_try_as (i := i) (n := n) (x := y) (c := .ref Cm) (tb := fun W' => tS C cl W' (evSs Γ G body)) (ts := fun a cls d D σ H => ∃ x : Ex, cl x.cls = some cls ∧ d = none ∧ tS { C with er := some (a, x) } cl (fun _ _ _ _ => False) (evSs Γ G su) D σ H)
          (Wout := fun _ _ _ _ => False) o.stk o.frm o.xo.nd (by rw [o.xo.N]; exact k6) (by show X.env.scope.names.lookup n = _; rw [o.xo.sc]; exact k7) ⟨glb_gl o.xo.sc k4, (nodebug_ok k5).1, .inl c2⟩
          (fun _ _ ⟨_, _, _, _, _, _, _, _, _, _, _, _, _, _, _, _, w⟩ => False.elim w) (fun W' pn xe tk ps => hb (o.tr hh tk ps) xs h1) (fun a oe cls d pn hz hf => ⟨fun pins s σ H D I hq => ?_⟩)) fun D σ H hq => ?_
        · obtain ⟨x, x1, rfl, x2⟩ := hq
          obtain ⟨Dd, _, rfl, _⟩ := o.xo.kit x.cls x.cls _ _ x1 x1
          exact (hs.1 _ _ _ _ (o.suite hh pn x1 hz hf) (t0 :: ts) h2.2).run pins s σ H D I x2
        · obtain ⟨ev, F, R, p⟩ := hq
          simp only [evS] at p
          refine ⟨ev, F, R, ?_⟩
          cases hr : evSs Γ G body ev with
          | bad => rw [hr] at p; exact p
          | nx e => rw [hr] at p; exact p
          | ret v e => rw [hr] at p; exact p
          | brk e => rw [hr] at p; exact p
          | cnt e => rw [hr] at p; exact p
          | exc x e =>
            rw [hr] at p
            simp only [evHs] at p
            intro σ' H' F' g R' cls dd hx
            split at p
            · rename_i hin
              obtain ⟨x1, rfl, _⟩ := hx
              obtain ⟨Dd, Cm', e1, e2, _, _, hex⟩ := o.xo.kit x.cls m _ _ x1 c1
              cases e1; cases e2
              rw [under_has (o.xo.clb _ _ x1)] at hin
              refine ⟨true, by rw [hex, hin], fun _ a ha => ⟨x, x1, rfl, ?_⟩, fun q => by cases q⟩
              split at p
              · rename_i e1 hc
                unfold catchE at hc
                split at hc
                · rename_i hcl
                  dsimp only at hc
                  split at hc
                  · cases hc
                  · rename_i nb
                    split at hc
                    · rename_i hi
                      cases hc
                      refine ⟨e.set i (.err x), F', (R'.er hcl).store hi nb ⟨a, rfl, rfl⟩ (fun _ z => by cases z) (fun _ _ z => by cases z), ?_⟩
                      exact suite_post h0 (PostS.up (σ1 := σ') p g)
                    · cases hc
                · cases hc
              · exact False.elim p
            · exact False.elim p
      · cases h2
    | [], [], h2, _ => simp [chkHs] at h2
    | [], _ :: _, h2, _ => simp [chkHs] at h2
    | _ :: _, [], h2, _ => simp [chkHs] at h2
    | _ :: _ :: _, [_], h2, _ => simp [chkHs] at h2
    | [_], _ :: _ :: _, h2, _ => simp [chkHs] at h2
    | _ :: _ :: _, _ :: _ :: _, h2, _ => simp [chkHs] at h2
  · cases h
theorem snd_wipe {is : List Nat} {ss : List S} {sts : List Stmt} (h : PSs X sts (tS C cl W (evSs Γ G ss))) : PSs X sts (tS C cl W (evSs Γ G (.wipe is :: ss))) := by
  refine pss_imp h fun D σ H hq => ?_
  obtain ⟨ev, F, R, p⟩ := hq
  simp only [evSs, evS] at p
  cases hw : Mini.wipeE ev is with
  | none => rw [hw] at p; exact False.elim p
  | some e' => rw [hw] at p; exact ⟨e', F, R.wipeE hw, p⟩
end
end Mini

set_option Elab.async false
set_option linter.all false
set_option maxRecDepth 100000
/-! Mini: statements: stores to places, loops, raise; the whole block. -/
namespace Mini
open PySem PySem.Spec PyProof.Rows L2
section
variable {X : Cx} {W : WX} {c : Ck} {sc : Scope} {C : Bx} {cl : Cl} {Γ : List Fn} {G : List D}
theorem setIx_inv {e e' : Ev} {i : Nat} {n d : D} (h : setIx e i n d = some e') : ∃ xs k j, getOwn e i = some (.lst xs) ∧ n = .int k ∧ ixN xs.length k = some j ∧ setOwn e i (.lst (xs.set j d)) = some e' := by
  unfold setIx at h
  split at h
  · rename_i xs k h1
    split at h
    · rename_i j h2
      exact ⟨xs, k, j, h1, rfl, h2, h⟩
    · cases h
  · cases h
theorem snd_stx (o : XS X W c sc C cl Γ G) {i : Nat} {k e : E} {s : Stmt} (h : chkS c sc (.stx i k e) s = true) : PS X s (tS C cl W (evS Γ G (.stx i k e))) := by
  simp only [chkS] at h
  split at h
  · rename_i ob j p1 x pos
    simp only [Bool.and_eq_true, Bool.not_eq_true'] at h
    obtain ⟨⟨⟨⟨⟨⟨⟨h1, h2⟩, h3⟩, h4⟩, h5⟩, h6⟩, h7⟩, h8⟩ := h
    have ha : ∀ v, assign (.Subscript ob j p1) X.env v = (do
        let ov ← holding [v] (eval ob X.env)
        let iv ← holding [v, ov] (eval j X.env)
        standAt p1
        holding [v, ov, iv] (setItem ov iv v)
        release [v, ov, iv] []) := fun v => by
      cases j <;> first | rfl | (cases h2; done)
    have hw : swappedStores [.Subscript ob j p1] x X.env = pure none := swN_ok o (by cases x <;> rfl)
    refine ps_imp (ps_asg (snd_val (sndE e o.xo x h8 h6)) (pg_sub (pe_nm o.xo h1) (snd_val (sndE k o.xo j h7 h5)) set_list ha) (noComp' h4 _ _) hw rfl) fun D σ H hq => ?_
    obtain ⟨ev, F, R, q⟩ := hq
    simp only [evS] at q
    refine ⟨ev, F, R, Post.mono (PostS.of q) fun d e1 H1 F1 g1 R1 q1 v rv => ?_⟩
    split at q1
    · exact False.elim q1
    rename_i d0 hg
    obtain ⟨a, ha, _, _, _, _⟩ := mut_inv R1 hg
    refine ⟨.ref a, st_some ha, e1, F1, R1, Post.mono (PostS.of q1) fun n e2 H2 F2 g2 R2 q2 w rw' => ?_⟩
    obtain ⟨e3, h9, q3⟩ := PostS.ofO q2
    obtain ⟨xs, kk, jj, k1, rfl, k2, k3⟩ := setIx_inv h9
    obtain ⟨a2, ha2, ⟨ys, ds, e4, t1, t2⟩, hf2, _, _⟩ := mut_inv R2 k1
    cases e4
    have : a2 = a := by rw [ha] at ha2; cases ha2; rfl
    subst this
    refine ⟨a2, ys, kk, jj, rfl, (rw'.rv (n := 0)).int, t1, by rw [t2.length]; exact k2, ?_⟩
    obtain ⟨g3, R3⟩ := R2.write ha2 t1 hf2 (t2.set (rv.grow g2) jj) k3
    exact q3 σ _ F2 g3 R3
  · cases h
theorem get_list : PGet X (rIxL X.K) := by
  intro pins s σ H x y v u Q I rx ry h
  obtain ⟨p, xs, i, z, rfl, rfl, hq, he, q⟩ := h
  cases rx
  obtain ⟨t, rfl⟩ := ry
  obtain ⟨its, r, pl, hz⟩ := I.list hq
  obtain ⟨j, h1, h2, h3, h4, h5⟩ := atI_get he
  obtain ⟨w, ew, rw'⟩ := r.get h2
  have hl := r.length
  have hn := line63
  have fin : EP X pins σ Q w s := ⟨z, H, I, rw', q⟩
  by_cases h0 : 0 ≤ i
  · have hj : i.toNat = j := by
      rw [seqIndex_of h0 h5] at h1
      exact Option.some.inj h1
    exact wpAny_getItem_list pl.isList h0 (by omega) (by rw [hj]; simpa using ew) fin
  · have hj : (i + (its.toArray.size : Int)).toNat = j := by
      rw [seqIndex_neg (by omega) h4] at h1
      rw [List.size_toArray, ← hl]
      exact Option.some.inj h1
    exact wpAny_getItem_list_neg pl.isList (by omega) (by rw [List.size_toArray] <;> omega) (by omega) (by rw [hj]; simpa using ew) fin
theorem getIx_inv {e : Ev} {i : Nat} {n d : D} (h : getIx e i n = some d) : ∃ xs k, getOwn e i = some (.lst xs) ∧ n = .int k ∧ atI xs k = some d := by
  unfold getIx at h
  split at h
  · rename_i xs k h1
    exact ⟨xs, k, h1, rfl, h⟩
  · cases h
theorem snd_augx (o : XS X W c sc C cl Γ G) {i : Nat} {p : Pr} {k e : E} {s : Stmt} (h : chkS c sc (.augx i p k e) s = true) : PS X s (tS C cl W (evS Γ G (.augx i p k e))) := by
  simp only [chkS] at h
  split at h
  · rename_i ob j p1 op x pos
    simp only [Bool.and_eq_true, Bool.not_eq_true'] at h
    obtain ⟨⟨⟨⟨⟨⟨h0, h1⟩, h2⟩, h5⟩, h6⟩, h7⟩, h8⟩ := h
    have ha : ∀ ov iv new, augStore j ov iv new = (do holding [new, ov, iv] (setItem ov iv new); release [new, ov, iv] []; pure .next) := fun ov iv new => by
      cases j <;> first | rfl | (cases h2; done)
    refine ps_imp (ps_augS (pe_nm o.xo h1) (snd_val (sndE k o.xo j h7 h5)) get_list (snd_val (sndE e o.xo x h8 h6)) (aug_op h0) set_list ha) fun D σ H hq => ?_
    obtain ⟨ev, F, R, q⟩ := hq
    simp only [evS] at q
    split at q
    · exact False.elim q
    rename_i d0 hg
    obtain ⟨a, ha, _, _, _, _⟩ := mut_inv R hg
    refine ⟨.ref a, st_some ha, ev, F, R, Post.mono (PostS.of q) fun n e1 H1 F1 g1 R1 q1 v rv => ?_⟩
    split at q1
    · exact False.elim q1
    rename_i a0 hg1
    obtain ⟨xs, kk, k1, rfl, k2⟩ := getIx_inv hg1
    obtain ⟨a1, ha1, ⟨ys, ds, e4, t1, t2⟩, hf1, _, _⟩ := mut_inv R1 k1
    cases e4
    have : a1 = a := by rw [ha] at ha1; cases ha1; rfl
    subst this
    obtain ⟨w, w1, w2⟩ := atI_rep t2 k2
    refine ⟨a1, ys, kk, w, rfl, (rv.rv (n := 0)).int, .inl (.of t1), w1, e1, F1, R1, Post.mono (PostS.of q1) fun b e2 H2 F2 g2 R2 q2 z rz => ?_⟩
    split at q2
    · rename_i d hd
      obtain ⟨e3, h9, q3⟩ := PostS.ofO q2
      obtain ⟨xs2, kk2, jj, k3, k4, k5, k6⟩ := setIx_inv h9
      cases k4
      obtain ⟨a2, ha2, ⟨ys2, ds2, e5, t3, t4⟩, hf2, _, _⟩ := mut_inv R2 k3
      cases e5
      have : a2 = a1 := by rw [ha] at ha2; cases ha2; rfl
      subst this
      rw [o.xo.K]
      refine ⟨F2, a0, b, d, w2.grow g2, rz, R2.tr, hd, fun u ru => ?_⟩
      refine ⟨a2, ys2, kk, jj, rfl, (rv.rv (n := 0)).int, t3, by rw [t4.length]; exact k5, ?_⟩
      obtain ⟨g3, R3⟩ := R2.write ha2 t3 hf2 (t4.set ru jj) k6
      exact q3 σ _ F2 g3 R3
    · exact False.elim q2
  · cases h
theorem snd_ex (o : XS X W c sc C cl Γ G) {e : E} {s : Stmt} (h : chkS c sc (.ex e) s = true) : PS X s (tS C cl W (evS Γ G (.ex e))) := by
  simp only [chkS] at h
  split at h
  · simp only [Bool.and_eq_true, Bool.not_eq_true'] at h
    refine ps_imp (ps_expr (sndE e o.xo _ h.2 h.1.2) (noComp h.1.1 _ _ _)) fun D σ H hq => ?_
    obtain ⟨ev, F, R, q⟩ := hq
    simp only [evS] at q
    exact ⟨ev, F, R, Post.mono (PostS.of q) fun out e1 H1 F1 g1 R1 q1 v hv => q1 σ H1 F1 (.refl _ _) R1⟩
  · cases h
theorem snd_ret (o : XS X W c sc C cl Γ G) {e : E} {s : Stmt} (h : chkS c sc (.ret e) s = true) : PS X s (tS C cl W (evS Γ G (.ret e))) := by
  simp only [chkS] at h
  split at h
  · simp only [Bool.and_eq_true, Bool.not_eq_true'] at h
    refine ps_imp (ps_ret (sndE e o.xo _ h.2 h.1)) fun D σ H hq => ?_
    obtain ⟨ev, F, R, q⟩ := hq
    simp only [evS] at q
    exact ⟨ev, F, R, Post.mono (PostS.of q) fun out e1 H1 F1 g1 R1 q1 v hv => q1 σ H1 F1 v (.refl _ _) R1 hv⟩
  · cases h
theorem snd_retN {s : Stmt} (h : chkS c sc .retN s = true) : PS X s (tS C cl W (evS Γ G .retN)) := by
  simp only [chkS] at h
  split at h
  · refine ps_imp ps_retN fun D σ H hq => ?_
    obtain ⟨ev, F, R, q⟩ := hq
    simp only [evS] at q
    exact q σ H F .non (.refl _ _) R Rep.non
  · cases h
theorem snd_rai (o : XS X W c sc C cl Γ G) {n : Nat} {s : Stmt} (h : chkS c sc (.rai n) s = true) : PS X s (tS C cl W (evS Γ G (.rai n))) := by
  simp only [chkS] at h
  split at h
  · simp only [Bool.and_eq_true, decide_eq_true_eq, Bool.not_eq_true'] at h
    obtain ⟨⟨⟨h0, h1⟩, h2⟩, h3⟩ := h
    obtain ⟨Cn, k1, k2⟩ := o.cls n _ h1
    refine ps_imp (L2N.ps_raise (o.xo.calm h0) o.xo.tk (k2 X rfl rfl (glb_gl o.xo.sc h2) (nodebug_ok h3).1 _ _ _ _ _)) fun D σ H hq => ?_
    obtain ⟨ev, F, R, q⟩ := hq
    simp only [evS] at q
    exact q σ H F (.refl _ _) R _ _ ⟨k1, rfl, rfl⟩
  · cases h
/-! ### loops -/
theorem PostS.loop {σ : L2.St} {H : Hp} {F : Fz} {r : SR} {D : Ends} {again : Ev → SR} {N : L2.St → Hp → Prop}
    (p : PostS C cl W σ H F (match r with
      | .nx e' => again e'
      | .cnt e' => again e'
      | .brk e' => .nx e'
      | r => r) D) (h : ∀ e' σ' H' F', Grow H F H' F' → Rel C e' σ' H' F' → PostS C cl W σ' H' F' (again e') D → N σ' H') : PostS C cl W σ H F r { D with nx := N, ct := N, bk := D.nx } := by
  cases r with
  | bad => exact p
  | nx e => exact fun σ' H' F' g R => h e σ' H' F' g R (PostS.up p g)
  | ret o e => exact p
  | brk e => exact p
  | cnt e => exact fun σ' H' F' g R => h e σ' H' F' g R (PostS.up p g)
  | exc x e => exact p
theorem snd_for (o : XS X W c sc C cl Γ G) {pat : Pat} {it : ItK} {src : List E} {body : List S} {tg iter : Expr} {xs : List Stmt} {pos : Pos} (h1 : okHead tg = true) (h2 : okHead iter = true) (h3 : chkPat c sc pat tg = true) (hh : c.hot = false) (hb : PSs X xs (tS C cl W (evSs Γ G body)))
    (hi : PI X tg iter (tIt C cl W it (evO Γ G src))) : PS X (.For tg iter xs [] pos) (tS C cl W (evS Γ G (.for_ pat it src body))) := by
  refine ps_imp (ps_for o.passes (o.xo.calm hh) hi (snd_pat o.xo o.st pat tg (.inl hh) h3) hb (fold_ok h2 _)) fun D σ H hq => ?_
  obtain ⟨ev, F, R, q⟩ := hq
  simp only [evS] at q
  refine ⟨ev, F, R, Post.mono (PostS.of q) fun os e1 H1 F1 g1 R1 q1 => ?_⟩
  unfold forR at q1
  split at q1
  · exact False.elim q1
  rename_i ds hds
  split at q1
  · exact False.elim q1
  rename_i items hit
  refine ⟨ds, items, hds, hit, fun J n wk => ?_⟩
  obtain ⟨G0, Y, wlk, hG, hY⟩ := wk.go
  refine for_it wlk (fun i σ' H' => ∃ e F, Rel C e σ' H' F ∧ Grow H1 F1 H' F ∧ PostS C cl W σ' H' F (forRun (fun x e' => SR.then (SR.ofO (put pat x e')) (evSs Γ G body)) (items.drop i) e) D) ⟨e1, F1, R1, .refl _ _, q1⟩ ?_ ?_ ?_
  · rintro i σ' H' hi ⟨e, F', R', g', _⟩
    exact hG e σ' H' F' R' g'
  · rintro i v σ2 H2 H3 hi ⟨e, F2, R2, g2, p2⟩ hy
    obtain ⟨d, F3, hd, x3, rd⟩ := hY i e σ2 H2 F2 v H3 hi R2 g2 hy
    have hlt : i < items.length := (List.getElem?_eq_some_iff.mp hd).1
    have hdr : items.drop i = d :: items.drop (i + 1) := by
      rw [List.drop_eq_getElem_cons hlt]
      rw [List.getElem?_eq_getElem hlt] at hd
      cases hd; rfl
    rw [hdr] at p2
    unfold forRun at p2
    have R3 := R2.ext x3
    have g3 := x3.grow
    cases hput : put pat d e with
    | none => rw [hput] at p2; exact False.elim p2
    | some e' =>
      rw [hput] at p2
      dsimp only [SR.ofO, SR.then] at p2
      refine ⟨e, F3, d, e', R3, rd, hput, fun σ' R' _ => ⟨e', F3, R', ?_⟩⟩
      refine PostS.loop (σ := σ') (PostS.up p2 g3) fun e'' σ4 H4 F4 g4 R4 p4 => ⟨e'', F4, R4, (g2.trans g3).trans g4, p4⟩
  · rintro σ' H' ⟨e, F', R', g', p'⟩
    rw [List.drop_eq_nil_of_le (by rw [wk.len]; exact Nat.le_refl _)] at p'
    exact p' σ' H' F' (.refl _ _) R'
theorem snd_whl (o : XS X W c sc C cl Γ G) {fuel : Ev → Nat} {t : E} {body : List S} {x : Expr} {xs : List Stmt} {pos : Pos} (ht : PT X x (tK C cl W fun e => toB (evE Γ G t e))) (hb : PSs X xs (tS C cl W (evSs Γ G body))) : PS X (.While x xs [] pos) (tS C cl W (evS Γ G (.whl fuel t body))) := by
  refine ps_imp (ps_while o.passes ht hb) fun D σ H hq => ?_
  obtain ⟨ev, F, R, q⟩ := hq
  simp only [evS] at q
  refine ⟨fun m σ' H' => ∃ e F, Rel C e σ' H' F ∧ PostS C cl W σ' H' F (whlRun (fun e => toB (evE Γ G t e)) (evSs Γ G body) m e) D, ⟨_, ev, F, R, q⟩, ?_⟩
  rintro m σ1 H1 ⟨e1, F1, R1, p1⟩
  cases m with
  | zero => exact False.elim p1
  | succ m =>
    unfold whlRun at p1
    refine ⟨e1, F1, R1, ?_⟩
    dsimp only at p1 ⊢
    cases hc : toB (evE Γ G t e1) with
    | bad => rw [hc] at p1; exact p1
    | exc x e2 => rw [hc] at p1; exact fun H2 F2 g2 R2 => p1 σ1 H2 F2 g2 R2
    | ok b e2 =>
      rw [hc] at p1
      intro H2 F2 g2 R2
      cases b with
      | false => rw [if_neg Bool.false_ne_true]; exact p1 σ1 H2 F2 g2 R2
      | true =>
        rw [if_pos rfl]
        refine ⟨fun σ' H' => ∃ e F, Rel C e σ' H' F ∧ PostS C cl W σ' H' F (whlRun (fun e => toB (evE Γ G t e)) (evSs Γ G body) m e) D, fun σ' H' ⟨e, F, R, p⟩ => ⟨m, Nat.lt_succ_self m, e, F, R, p⟩, e2, F2, R2, ?_⟩
        exact PostS.loop (PostS.up (σ1 := σ1) p1 g2) fun e' σ' H' F' g' R' p' => ⟨e', F', R', p'⟩
theorem PostS.then {σ : L2.St} {H : Hp} {F : Fz} {r : SR} {D : Ends} {k : Ev → SR} {t : TS} (p : PostS C cl W σ H F (r.then k) D) (h : ∀ e' σ' H' F', Grow H F H' F' → Rel C e' σ' H' F' → PostS C cl W σ' H' F' (k e') D → t D σ' H') : PostS C cl W σ H F r { D with nx := t D } := by
  cases r with
  | bad => exact p
  | nx e => exact fun σ' H' F' g R => h e σ' H' F' g R (PostS.up p g)
  | ret o e => exact p
  | brk e => exact p
  | cnt e => exact p
  | exc x e => exact p
mutual
theorem sndS : ∀ (s : S) {X : Cx} {W : WX} {c : Ck} {C : Bx} (o : XS X W c sc C cl Γ G) (st : Stmt), chkS c sc s st = true → PS X st (tS C cl W (evS Γ G s))
  | .set p e, _, _, _, _, o, st, h => snd_set o h
  | .par is es, _, _, _, _, o, st, h => snd_par o h
  | .aug i p e, _, _, _, _, o, st, h => snd_aug o h
  | .stx i k e, _, _, _, _, o, st, h => snd_stx o h
  | .augx i p k e, _, _, _, _, o, st, h => snd_augx o h
  | .ex e, _, _, _, _, o, st, h => snd_ex o h
  | .ret e, _, _, _, _, o, st, h => snd_ret o h
  | .retN, _, _, _, _, o, st, h => snd_retN h
  | .if_ t a b, _, _, _, _, o, st, h => by
    simp only [chkS] at h
    split at h
    · simp only [Bool.and_eq_true] at h
      refine ps_imp (ps_if (sndT t o.xo _ h.1.1) (sndSs a o _ h.1.2) (sndSs b o _ h.2)) fun D σ H hq => ?_
      obtain ⟨ev, F, R, q⟩ := hq
      simp only [evS] at q
      refine ⟨ev, F, R, Post.mono (PostS.of q) fun k e1 H1 F1 g1 R1 q1 => ?_⟩
      cases k with
      | true => rw [if_pos rfl]; exact ⟨e1, F1, R1, q1⟩
      | false => rw [if_neg Bool.false_ne_true]; exact ⟨e1, F1, R1, q1⟩
    · cases h
  | .for_ pat it src body, _, _, _, _, o, st, h => by
    simp only [chkS] at h
    split at h
    · simp only [Bool.and_eq_true, Bool.not_eq_true'] at h
      obtain ⟨⟨⟨⟨⟨h0, h1⟩, h2⟩, h3⟩, h4⟩, h5⟩ := h
      split at h5
      · rename_i ys hs
        exact snd_for o h1 h2 h3 h0 (sndSs body o _ h4) (it_form o.xo hs h2 (sndL src o.xo ys h5))
      · cases h5
    · cases h
  | .whl fuel t body, _, _, _, _, o, st, h => by
    simp only [chkS] at h
    split at h
    · simp only [Bool.and_eq_true] at h
      exact snd_whl o (sndT t o.xo _ h.1) (sndSs body o _ h.2)
    · cases h
  | .brk, _, _, _, _, o, st, h => by
    simp only [chkS] at h
    split at h
    · refine ps_imp ps_break fun D σ H hq => ?_
      obtain ⟨ev, F, R, q⟩ := hq
      simp only [evS] at q
      exact q σ H F (.refl _ _) R
    · cases h
  | .cnt, _, _, _, _, o, st, h => by
    simp only [chkS] at h
    split at h
    · refine ps_imp ps_continue fun D σ H hq => ?_
      obtain ⟨ev, F, R, q⟩ := hq
      simp only [evS] at q
      exact q σ H F (.refl _ _) R
    · cases h
  | .pass, _, _, _, _, o, st, h => by
    simp only [chkS] at h
    split at h
    · refine ps_imp ps_pass fun D σ H hq => ?_
      obtain ⟨ev, F, R, q⟩ := hq
      simp only [evS] at q
      exact q σ H F (.refl _ _) R
    · cases h
  | .rai n, _, _, _, _, o, st, h => snd_rai o h
  | .tryc body hd suites, _, _, _, _, o, st, h => snd_tryc o (fun o' xs hx => sndSs body o' xs hx) (sndHs suites) h
  | .wipe is, _, _, _, _, o, st, h => by simp [chkS] at h
theorem sndSs : ∀ (ss : List S) {X : Cx} {W : WX} {c : Ck} {C : Bx} (o : XS X W c sc C cl Γ G) (sts : List Stmt), chkSs c sc ss sts = true → PSs X sts (tS C cl W (evSs Γ G ss))
  | [], _, _, _, _, o, sts, h => by
    cases sts with
    | cons _ _ => simp [chkSs] at h
    | nil =>
      refine pss_imp pss_nil fun D σ H hq => ?_
      obtain ⟨ev, F, R, q⟩ := hq
      simp only [evSs] at q
      exact q σ H F (.refl _ _) R
  | s :: ss, _, _, _, _, o, sts, h => by
    unfold chkSs at h
    cases hw : s.isWipe with
    | true =>
      rw [hw] at h
      cases s <;> first
        | (cases hw; done)
        | exact snd_wipe (sndSs ss o sts h)
    | false =>
      rw [hw] at h
      cases sts with
      | nil => cases h
      | cons st sts =>
        dsimp only at h
        rw [Bool.and_eq_true] at h
        refine pss_imp (pss_cons (sndS s o st h.1) (sndSs ss o sts h.2)) fun D σ H hq => ?_
        obtain ⟨ev, F, R, q⟩ := hq
        simp only [evSs] at q
        exact ⟨ev, F, R, PostS.then q fun e' σ' H' F' g R' p' => ⟨e', F', R', p'⟩⟩
theorem sndHs : ∀ (sus : List (List S)), AllS (SuOk sc cl Γ G) sus
  | [] => trivial
  | s :: sus => ⟨fun X' W' c' C' o xs hx => sndSs s o xs hx, sndHs sus⟩
end
end
end Mini

set_option Elab.async false
set_option linter.all false
set_option maxRecDepth 100000
/-! Mini: a def. -/
namespace Mini
open PySem PySem.Spec PyProof.Rows L2
/-! ### the entry -/
def argSl : Mode → D → Sl
  | .val, d => .val d
  | .ro, d => .ro d
  | .st, d => .st d
  | .bor, d => .bor d
  | .err, .obj c as => .err ⟨c, as⟩
  | .err, _ => .no
theorem rep_no (n i : Nat) : Ev.at (List.replicate n .no) i = .no := by
  unfold Ev.at
  rw [List.getD_eq_getElem?_getD, List.getElem?_replicate]
  split <;> rfl
theorem enter_at : ∀ (n : Nat) (ms : List Mode) (ds : List D) (i : Nat), ds.length = ms.length → (enter n ms ds).at i = match ms[i]?, ds[i]? with | some m, some d => argSl m d | _, _ => .no
  | n, [], [], i, _ => by simp [enter, rep_no]
  | n, [], _ :: _, i, h => by cases h
  | n, _ :: _, [], i, h => by cases h
  | n, m :: ms, d :: ds, 0, _ => by cases m <;> first | rfl | (cases d <;> rfl)
  | n, m :: ms, d :: ds, i + 1, h => by
    have ih := enter_at (n - 1) ms ds i (by simpa using h)
    have : Ev.at (enter n (m :: ms) (d :: ds)) (i + 1) = (enter (n - 1) ms ds).at i := by cases m <;> rfl
    rw [this, ih]
    simp
theorem enter_len : ∀ (n : Nat) (ms : List Mode) (ds : List D), ds.length = ms.length → ms.length ≤ n → (enter n ms ds).length = n
  | n, [], [], _, _ => by simp [enter]
  | n, [], _ :: _, h, _ => by cases h
  | n, _ :: _, [], h, _ => by cases h
  | n, m :: ms, d :: ds, h, hn => by
    have ih := enter_len (n - 1) ms ds (by simpa using h) (by simp at hn; omega)
    have : (enter n (m :: ms) (d :: ds)).length = (enter (n - 1) ms ds).length + 1 := by cases m <;> rfl
    rw [this, ih]
    simp at hn
    omega
theorem start_get (N : List Str) (vs : List V) (i : Nat) : (L2.start N vs).getD i none = vs[i]? := by
  unfold L2.start
  rw [List.getD_eq_getElem?_getD]
  by_cases h : i < vs.length
  · rw [List.getElem?_append_left (by simpa using h), List.getElem?_map]
    simp [h]
  · rw [List.getElem?_append_right (by simpa using h), List.getElem?_replicate, List.getElem?_eq_none (Nat.le_of_not_lt h)]
    split <;> rfl
theorem start_len (N : List Str) (vs : List V) (h : vs.length ≤ N.length) : (L2.start N vs).length = N.length := by
  unfold L2.start
  simp
  omega
section
variable {K : PySem.W.Frag} {H : Hp} {F : Fz} {er : Option (Addr × Ex)}
theorem ArgsOk.len : ∀ {ms : List Mode} {vs : List V} {ds : List D}, ArgsOk K H F er ms vs ds → vs.length = ms.length ∧ ds.length = ms.length
  | _, _, _, .nil => ⟨rfl, rfl⟩
  | _, _, _, .val _ t => by have := ArgsOk.len t; simp [this]
  | _, _, _, .ro _ t => by have := ArgsOk.len t; simp [this]
  | _, _, _, .st _ t => by have := ArgsOk.len t; simp [this]
  | _, _, _, .bor _ _ t => by have := ArgsOk.len t; simp [this]
  | _, _, _, .err _ t => by have := ArgsOk.len t; simp [this]
def ArgOk1 (K : PySem.W.Frag) (H : Hp) (F : Fz) (er : Option (Addr × Ex)) (v : V) (d : D) : Mode → Prop
  | .val => Rep K H F v d
  | .ro => ∃ a, v = .ref a ∧ TL K H F a d
  | .st => ∃ a, v = .ref a ∧ StL K H F a d
  | .bor => ∃ a, v = .ref a ∧ TL K H F a d ∧ ¬ F a
  | .err => ∃ a x, v = .ref a ∧ er = some (a, x) ∧ d = .obj x.cls x.args
theorem ArgsOk.get : ∀ {ms : List Mode} {vs : List V} {ds : List D} {i : Nat} {m : Mode} {d : D}, ArgsOk K H F er ms vs ds → ms[i]? = some m → ds[i]? = some d → ∃ v, vs[i]? = some v ∧ ArgOk1 K H F er v d m
  | _, _, _, i, m, d, .nil, h, _ => by simp at h
  | _, _, _, 0, m, d, .val r _, h, k => by simp at h k; subst h k; exact ⟨_, rfl, r⟩
  | _, _, _, 0, m, d, .ro r _, h, k => by simp at h k; subst h k; exact ⟨_, rfl, _, rfl, r⟩
  | _, _, _, 0, m, d, .st r _, h, k => by simp at h k; subst h k; exact ⟨_, rfl, _, rfl, r⟩
  | _, _, _, 0, m, d, .bor r n _, h, k => by simp at h k; subst h k; exact ⟨_, rfl, _, rfl, r, n⟩
  | _, _, _, 0, m, d, .err r _, h, k => by simp at h k; subst h k; exact ⟨_, rfl, _, _, rfl, r, rfl⟩
  | _, _, _, i + 1, m, d, .err _ t, h, k => by simpa using ArgsOk.get (i := i) t (by simpa using h) (by simpa using k)
  | _, _, _, i + 1, m, d, .val _ t, h, k => by simpa using ArgsOk.get (i := i) t (by simpa using h) (by simpa using k)
  | _, _, _, i + 1, m, d, .ro _ t, h, k => by simpa using ArgsOk.get (i := i) t (by simpa using h) (by simpa using k)
  | _, _, _, i + 1, m, d, .st _ t, h, k => by simpa using ArgsOk.get (i := i) t (by simpa using h) (by simpa using k)
  | _, _, _, i + 1, m, d, .bor _ _ t, h, k => by simpa using ArgsOk.get (i := i) t (by simpa using h) (by simpa using k)
end
theorem borA_mem : ∀ {ms : List Mode} {vs : List V} {a : Addr}, a ∈ borA ms vs ↔ ∃ i : Nat, ms[i]? = some Mode.bor ∧ vs[i]? = some (V.ref a)
  | [], vs, a => by simp [borA]
  | m :: ms, [], a => by simp [borA]
  | m :: ms, v :: vs, a => by
    have ih := @borA_mem ms vs a
    have shift : (∃ i : Nat, (m :: ms)[i]? = some Mode.bor ∧ (v :: vs)[i]? = some (V.ref a)) ↔ (m = .bor ∧ v = .ref a) ∨ ∃ i : Nat, ms[i]? = some Mode.bor ∧ vs[i]? = some (V.ref a) := by
      constructor
      · rintro ⟨i, h1, h2⟩
        cases i with
        | zero => simp at h1 h2; exact .inl ⟨h1, h2⟩
        | succ i => exact .inr ⟨i, by simpa using h1, by simpa using h2⟩
      · rintro (⟨h1, h2⟩ | ⟨i, h1, h2⟩)
        · exact ⟨0, by simp [h1], by simp [h2]⟩
        · exact ⟨i + 1, by simpa using h1, by simpa using h2⟩
    rw [shift, ← ih]
    cases m <;> first
      | (cases v <;> simp [borA]; done)
      | (cases v <;> simp [borA, eq_comm])
theorem lstA_mem : ∀ {ms : List Mode} {vs : List V} {a : Addr} {i : Nat}, (ms[i]? = some Mode.bor ∨ ms[i]? = some Mode.ro) → vs[i]? = some (V.ref a) → a ∈ lstA ms vs
  | [], vs, a, i, h, _ => by simp at h
  | m :: ms, [], a, i, _, h => by simp at h
  | m :: ms, v :: vs, a, 0, h, k => by
    simp at h k
    subst k
    rcases h with rfl | rfl <;> exact List.mem_cons_self
  | m :: ms, v :: vs, a, i + 1, h, k => by
    have ih := @lstA_mem ms vs a i (by simpa using h) (by simpa using k)
    cases m <;> first
      | (cases v <;> exact ih)
      | (cases v <;> first | exact ih | exact List.mem_cons_of_mem _ ih)
theorem sep_ne : ∀ {ms : List Mode} {vs : List V} {a b : Addr} {i j : Nat}, sepA ms vs → i ≠ j → ms[i]? = some Mode.bor → vs[i]? = some (V.ref a) → (ms[j]? = some Mode.bor ∨ ms[j]? = some Mode.ro) → vs[j]? = some (V.ref b) → a ≠ b
  | [], vs, a, b, i, j, _, _, h, _, _, _ => by simp at h
  | m :: ms, [], a, b, i, j, _, _, _, h, _, _ => by simp at h
  | m :: ms, v :: vs, a, b, 0, 0, _, h, _, _, _, _ => absurd rfl h
  | m :: ms, v :: vs, a, b, 0, j + 1, s, _, h1, h2, h3, h4 => by
    simp at h1 h2
    subst h1 h2
    rintro rfl
    exact s.1 (lstA_mem (i := j) (by simpa using h3) (by simpa using h4))
  | m :: ms, v :: vs, a, b, i + 1, 0, s, _, h1, h2, h3, h4 => by
    simp at h3 h4
    subst h4
    have hb : a ∈ borA ms vs := borA_mem.mpr ⟨i, by simpa using h1, by simpa using h2⟩
    have hl : a ∈ lstA ms vs := lstA_mem (i := i) (.inl (by simpa using h1)) (by simpa using h2)
    rintro rfl
    rcases h3 with rfl | rfl
    · exact s.1 hl
    · exact s.1 hb
  | m :: ms, v :: vs, a, b, i + 1, j + 1, s, hij, h1, h2, h3, h4 => by
    have s' : sepA ms vs := by
      cases m <;> first
        | (cases v <;> exact s)
        | (cases v <;> first | exact s | exact s.2)
    exact sep_ne (i := i) (j := j) s' (fun z => hij (by rw [z])) (by simpa using h1) (by simpa using h2) (by simpa using h3) (by simpa using h4)
/-- the lent places with their addresses -/
def borB (ms : List Mode) (vs : List V) : List (Nat × Addr) := (List.range ms.length).filterMap fun i => match ms[i]?, vs[i]? with
  | some Mode.bor, some (V.ref a) => some (i, a)
  | _, _ => none
theorem borB_mem {ms : List Mode} {vs : List V} {i : Nat} {a : Addr} : (i, a) ∈ borB ms vs ↔ ms[i]? = some Mode.bor ∧ vs[i]? = some (V.ref a) := by
  unfold borB
  rw [List.mem_filterMap]
  constructor
  · rintro ⟨j, hj, h⟩
    split at h
    · cases h
      exact ⟨by assumption, by assumption⟩
    · cases h
  · rintro ⟨h1, h2⟩
    refine ⟨i, List.mem_range.mpr (List.getElem?_eq_some_iff.mp h1).1, ?_⟩
    rw [h1, h2]
theorem borB_addr {ms : List Mode} {vs : List V} {a : Addr} : a ∈ (borB ms vs).map (·.2) ↔ a ∈ borA ms vs := by
  rw [List.mem_map, borA_mem]
  constructor
  · rintro ⟨⟨i, b⟩, h, rfl⟩
    exact ⟨i, borB_mem.mp h⟩
  · rintro ⟨i, h⟩
    exact ⟨(i, a), borB_mem.mpr h, rfl⟩
theorem rel_enter {K : PySem.W.Frag} {H : Hp} {F : Fz} {er : Option (Addr × Ex)} {ms : List Mode} {vs : List V} {ds : List D} {N : List Str} (tr : ∀ a, F a → H a ≠ none) (ok : ArgsOk K H F er ms vs ds) (sep : sepA ms vs) (hn : ms.length ≤ N.length) :
    Rel ⟨K, H, F, borB ms vs, [], er⟩ (enter N.length ms ds) (L2.start N vs) H F := by
  obtain ⟨l1, l2⟩ := ok.len
  have sl : ∀ i : Nat, (∃ m d v, ms[i]? = some m ∧ ds[i]? = some d ∧ vs[i]? = some v ∧ (enter N.length ms ds).at i = argSl m d ∧ ArgOk1 K H F er v d m) ∨ (enter N.length ms ds).at i = .no := fun i => by
    rw [enter_at N.length ms ds i l2]
    cases h1 : ms[i]? with
    | none => exact .inr rfl
    | some m =>
      cases h2 : ds[i]? with
      | none => exact .inr rfl
      | some d =>
        obtain ⟨v, h3, h4⟩ := ok.get h1 h2
        exact .inl ⟨m, d, v, rfl, rfl, h3, rfl, h4⟩
  have nb : ∀ a xs o, H a = some (.frz o (.lst xs)) → a ∉ (borB ms vs).map (·.2) := fun a xs o h hm => by
    rw [borB_addr, borA_mem] at hm
    obtain ⟨i, h1, h2⟩ := hm
    rcases sl i with ⟨m, d, v, k1, k2, k3, _, k5⟩ | k
    · rw [h1] at k1; cases k1
      rw [h2] at k3; cases k3
      obtain ⟨b, e1, ⟨ys, es, _, t, _⟩, _⟩ := k5
      cases e1
      rw [h] at t; cases t
    · have hi : i < ds.length := by rw [l2]; exact (List.getElem?_eq_some_iff.mp h1).1
      rw [enter_at N.length ms ds i l2, h1, List.getElem?_eq_getElem hi] at k
      cases k
  refine ⟨by rw [enter_len N.length ms ds l2 hn, start_len N vs (by rw [l1]; exact hn)], fun _ h => h, fun _ h => .inl h, tr, fun _ _ h _ => h, fun p hp => ?_, fun i => ?_, fun i j a hij hm hl h1 h2 => ?_, fun p hp => by cases hp⟩
  · obtain ⟨i, a⟩ := p
    obtain ⟨h1, h2⟩ := borB_mem.mp hp
    have hi : i < ds.length := by rw [l2]; exact (List.getElem?_eq_some_iff.mp h1).1
    obtain ⟨v, h3, h4⟩ := ok.get h1 (List.getElem?_eq_getElem hi)
    rw [h2] at h3; cases h3
    obtain ⟨b, e1, ⟨ys, es, _, t, _⟩, _⟩ := h4
    cases e1
    refine ⟨by show H a ≠ none; rw [t]; simp, ds[i], ?_⟩
    rw [enter_at N.length ms ds i l2, h1, List.getElem?_eq_getElem hi]
    rfl
  · rw [start_get]
    rcases sl i with ⟨m, d, v, k1, k2, k3, k4, k5⟩ | k
    · rw [k4, k3]
      cases m with
      | val => exact ⟨v, rfl, k5⟩
      | ro =>
        obtain ⟨a, rfl, xs, es, e1, t1, t2⟩ := k5
        refine ⟨a, rfl, xs, es, e1, t1, fun hm => ?_, t2⟩
        rw [borB_addr, borA_mem] at hm
        obtain ⟨j, j1, j2⟩ := hm
        by_cases hij : j = i
        · subst hij; rw [k1] at j1; cases j1
        · exact sep_ne sep hij j1 j2 (.inr k1) k3 rfl
      | st =>
        obtain ⟨a, rfl, xs, es, e1, t1, t2⟩ := k5
        refine ⟨a, rfl, xs, es, e1, ?_, t2⟩
        rcases t1 with ⟨o, t1⟩ | t1
        · exact .inl ⟨o, t1, nb a xs o t1⟩
        · exact .inr t1
      | bor =>
        obtain ⟨a, rfl, t, hf⟩ := k5
        exact ⟨a, rfl, t, hf, borB_mem.mpr ⟨k1, k3⟩⟩
      | err =>
        obtain ⟨a, x, rfl, h5, rfl⟩ := k5
        exact ⟨a, rfl, h5⟩
    · rw [k]; trivial
  · rw [start_get] at h1 h2
    rcases sl i with ⟨m, d, v, k1, k2, k3, k4, k5⟩ | k
    · rw [k4] at hm
      rcases sl j with ⟨m', d', v', q1, q2, q3, q4, q5⟩ | q
      · rw [q4] at hl
        have hm' : m = .bor := by cases m <;> first | (cases hm; done) | rfl | (cases d <;> (cases hm; done))
        have hl' : m' = .bor ∨ m' = .ro := by cases m' <;> first | (cases hl; done) | exact .inl rfl | exact .inr rfl | (cases d' <;> (cases hl; done))
        subst hm'
        exact sep_ne sep hij k1 h1 (by rcases hl' with z | z <;> rw [z] at q1 <;> simp [q1]) h2 rfl
      · rw [q] at hl; cases hl
    · rw [k] at hm; cases hm
/-- what the lent lists hold at the end -/
theorem backs_ok {K : PySem.W.Frag} {H0 H : Hp} {F0 F : Fz} {er : Option (Addr × Ex)} {MS : List Mode} {VS : List V} {e : Ev} {σ : L2.St} (R : Rel ⟨K, H0, F0, borB MS VS, [], er⟩ e σ H F) : ∀ (ms : List Mode) (vs : List V) (i : Nat) (b : List D), (∀ j : Nat, ms[j]? = MS[i + j]?) → (∀ j : Nat, vs[j]? = VS[i + j]?) → vs.length = ms.length →
    (∀ j : Nat, MS[j]? = some Mode.bor → ∃ a, VS[j]? = some (V.ref a)) → backs e i ms = some b → BackOk K H F (borA ms vs) b
  | [], vs, i, b, _, _, hl, _, h => by
    cases vs with
    | nil => cases h; exact .nil
    | cons _ _ => cases hl
  | m :: ms, [], i, b, _, _, hl, _, h => by cases hl
  | m :: ms, v :: vs, i, b, h1, h2, hl, hr, h => by
    have s1 : ∀ j : Nat, ms[j]? = MS[i + 1 + j]? := fun j => by have := h1 (j + 1); simp at this; rw [this]; congr 1; omega
    have s2 : ∀ j : Nat, vs[j]? = VS[i + 1 + j]? := fun j => by have := h2 (j + 1); simp at this; rw [this]; congr 1; omega
    have l2 : vs.length = ms.length := by simpa using hl
    cases m with
    | bor =>
      have m0 : MS[i]? = some Mode.bor := by have := h1 0; simpa using this.symm
      obtain ⟨a, ha⟩ := hr i m0
      have v0 : v = .ref a := by have := h2 0; simp at this; rw [ha] at this; exact Option.some.inj this
      subst v0
      unfold backs at h
      split at h
      · rename_i d ds q1 q2
        cases h
        have sl := R.slot i
        rw [q1] at sl
        obtain ⟨a', e1, t, _, hb⟩ := sl
        have : a' = a := by
          have := (borB_mem.mp hb).2
          rw [ha] at this; cases this; rfl
        subst this
        exact .cons t (backs_ok R ms vs (i + 1) ds s1 s2 l2 hr q2)
      · cases h
    | val => cases v <;> exact backs_ok R ms vs (i + 1) b s1 s2 l2 hr h
    | ro => cases v <;> exact backs_ok R ms vs (i + 1) b s1 s2 l2 hr h
    | st => cases v <;> exact backs_ok R ms vs (i + 1) b s1 s2 l2 hr h
    | err => cases v <;> exact backs_ok R ms vs (i + 1) b s1 s2 l2 hr h
/-- a def keeps its promise, where nothing is being shown -/
theorem fn_g {CX : CXT} {P : Program} {w : World} {K : PySem.W.Frag} {mg : Str → Option Value} {base : Heap} {k : Nat} {f : Addr} {name qual : Str} {params : Arguments} {body : List Stmt} {scope : Scope} {dV kV doc pm cdv ct oc : Value} {an od : Option Addr}
    {osl : Array (Option Value)} {N ps : List Str} {sp : Sp} (lk : K.lookup f = some ⟨oc, od, .func (PySem.W.fnOf name qual params body scope dV kV doc pm an cdv ct), osl⟩) (hcd : PySem.W.codeIn K cdv qual = true) (S : FnScope N ps scope)
    (len : ∀ vs H Q E, sp vs H Q E → vs.length = ps.length)
    (hbody : ∀ (A : Around) (outer : List PySem.Env) (s : Shared) (H : Hp) (vs : List V) (Q : VK) (E : XK), A.guards = some [] → Room k (A.deeper (envOfC qual scope s.heap.objs.size f cdv)) → sp vs H Q E →
      ∃ t, PSs (cxOf CX P w K mg base N qual scope f cdv A outer s H E) body t ∧ t { nx := fun _ H' => Q .non H', rt := Q } (start N vs) H) :
    FnG P w K mg base CX (k + 1) f (PySem.W.fnOf name qual params body scope dV kV doc pm an cdv ct) ps sp where
  len := len
  run := fun A outer s H args us vs Q E hg hr e0 hb r hsp => by
    have hl := len _ _ _ _ hsp
    have KX : K.In s.heap := e0.mod.kin.keeps fun b o e => (e0.bs b o e).1
    have lim : s.heap.NoLimit := e0.mod.nolimit.keeps fun b o e => (e0.bs b o e).1
    have pars : ∀ y ∈ ps.zip us, scope.names.lookup y.1 = some .local ∨ (scope.names.lookup y.1 = some .cell ∧ ((cellsFrom (s.heap.objs.size + 1) scope.names []).lookup y.1).isSome = true) := fun y hy =>
      (S.par y.1 (List.of_mem_zip hy).1).imp_right fun q => ⟨q, PySem.W.cellsFrom_some _ _ _ (.inl q)⟩
    refine codeAny_call_function hr.depth (KX _ _ lk) rfl S.co S.gen rfl (PySem.W.codeRec_of KX hcd) (hb _ _ _ _ ?_)
    refine wpAny_newFunctionEnv_cells S.kind pars fun env he s1 x => ?_
    subst he
    refine ⟨lim.keeps x.toInCall.keep, codeAny_func ?_⟩
    obtain ⟨t, ht, hq⟩ := hbody A outer s H vs Q E hg (hr.deeper _) hsp
    have I : Inv (cxOf CX P w K mg base N qual scope f cdv A outer s H E) [] (start N vs) H s1 := inv_start S hr.hd e0 hl r x
    refine wpAny_mono (ht.run [] s1 (start N vs) H _ I hq) (fun fl s' hs => ?_) fun e s' hs => hs
    cases fl with
    | ret u =>
      obtain ⟨v, σ', H', J, rv, q⟩ := hs
      exact ⟨v, H', J.os, J.bare, J.base, J.hok, rv, q⟩
    | next =>
      obtain ⟨σ', H', J, q⟩ := hs
      exact ⟨V.non, H', J.os, J.bare, J.base, J.hok, rfl, q⟩
    | brk => exact hs.choose_spec.choose_spec.2.elim
    | cont => exact hs.choose_spec.choose_spec.2.elim
/-- .. where an exception is handled -/
theorem fn_e {CX : CXT} {P : Program} {w : World} {K : PySem.W.Frag} {mg : Str → Option Value} {base : Heap} {cl : Cl} {k : Nat} {f : Addr} {name qual : Str} {params : Arguments} {body : List Stmt} {scope : Scope} {dV kV doc pm cdv ct oc : Value} {an od : Option Addr}
    {osl : Array (Option Value)} {N ps : List Str} {sp : Option (Addr × Ex) → Sp} (lk : K.lookup f = some ⟨oc, od, .func (PySem.W.fnOf name qual params body scope dV kV doc pm an cdv ct), osl⟩) (hcd : PySem.W.codeIn K cdv qual = true) (S : FnScope N ps scope)
    (len : ∀ er vs H Q E, sp er vs H Q E → vs.length = ps.length)
    (hbody : ∀ (A : Around) (outer : List PySem.Env) (s : Shared) (H : Hp) (vs : List V) (Q : VK) (E : XK) (p : Addr × Obj) (x : Ex), HotI cl A p x → L2H.RoomH k (A.deeper (envOfC qual scope s.heap.objs.size f cdv)) → sp (some (p.1, x)) vs H Q E →
      ∃ t, PSs (L2H.cxH CX P w K mg base N qual scope f cdv A outer s H E p) body t ∧ t { nx := fun _ H' => Q .non H', rt := Q } (start N vs) H) :
    FnE P w K mg base CX cl (k + 1) f (PySem.W.fnOf name qual params body scope dV kV doc pm an cdv ct) ps sp where
  len := len
  run := fun A outer s H args us vs Q E p x hr hi pk e0 hb r hsp => by
    have hl := len _ _ _ _ _ hsp
    have kin : K.In s.heap := e0.mod.kin.keeps fun b o e => (e0.bs b o e).1
    have nol : s.heap.NoLimit := e0.mod.nolimit.keeps fun b o e => (e0.bs b o e).1
    have pars : ∀ y ∈ ps.zip us, scope.names.lookup y.1 = some .local ∨ (scope.names.lookup y.1 = some .cell ∧ ((cellsFrom (s.heap.objs.size + 1) scope.names []).lookup y.1).isSome = true) := fun y hy =>
      (S.par y.1 (List.of_mem_zip hy).1).imp_right fun q => ⟨q, PySem.W.cellsFrom_some _ _ _ (.inl q)⟩
    refine codeAny_call_function hr.depth (kin _ _ lk) rfl S.co S.gen rfl (PySem.W.codeRec_of kin hcd) (hb _ _ _ _ (wpAny_newFunctionEnv_cells S.kind pars fun env he s1 xx => ?_))
    subst he
    refine ⟨nol.keeps xx.toInCall.keep, codeAny_func ?_⟩
    obtain ⟨t, ht, hq⟩ := hbody A outer s H vs Q E p x hi (hr.deeper _) hsp
    have I : Inv (L2H.cxH CX P w K mg base N qual scope f cdv A outer s H E p) [] (start N vs) H s1 := L2H.inv_startH S pk e0 hl r xx
    refine wpAny_mono (ht.run [] s1 (start N vs) H _ I hq) (fun fl s' hs => ?_) fun e s' hs => hs
    match fl, hs with
    | .ret u, ⟨v, σ', H', J, rv, q⟩ => exact ⟨v, H', J.os, J.bare, J.base, J.hok, rv, q⟩
    | .next, ⟨σ', H', J, q⟩ => exact ⟨V.non, H', J.os, J.bare, J.base, J.hok, rfl, q⟩
    | .brk, hs => exact hs.choose_spec.choose_spec.2.elim
    | .cont, hs => exact hs.choose_spec.choose_spec.2.elim
section
variable {P : Program} {w : World} {K : PySem.W.Frag} {mg : Str → Option Value} {base : Heap}
theorem body_end {cl : Cl} {Γ : List Fn} {G : List D} {fn : Fn} {ss : List S} {N : List Str} {er : Option (Addr × Ex)} {vs : List V} {H : Hp} {Q : VK} {E : XK} {F : Fz} {ds : List D} {r : FRes} (tr : ∀ a, F a → H a ≠ none) (ok : ArgsOk K H F er fn.modes vs ds) (sep : sepA fn.modes vs)
    (post : ∀ H' F', CallExt H F H' F' (· ∈ borA fn.modes vs) → BackOk K H' F' (borA fn.modes vs) r.back → FnPost K cl H H' F' Q E r.out) (hpl : fn.modes.length ≤ N.length) (hrun : runDef Γ G N.length fn.modes ss ds = some r) :
    tS ⟨K, H, F, borB fn.modes vs, [], er⟩ cl (fun cls d _ H' => E cls d H') (evSs Γ G ss) { nx := fun _ H' => Q .non H', rt := Q } (start N vs) H := by
  refine ⟨enter N.length fn.modes ds, F, rel_enter tr ok sep hpl, ?_⟩
  unfold runDef at hrun
  split at hrun
  · have borR : ∀ j : Nat, fn.modes[j]? = some Mode.bor → ∃ a, vs[j]? = some (V.ref a) := fun j hj => by
      have hd : j < ds.length := by rw [ok.len.2]; exact (List.getElem?_eq_some_iff.mp hj).1
      obtain ⟨v, h3, h4⟩ := ok.get hj (List.getElem?_eq_getElem hd)
      obtain ⟨a, rfl, _⟩ := h4
      exact ⟨a, h3⟩
    have fin : ∀ {e : Ev} {σ' : L2.St} {H' : Hp} {F' : Fz} {b : List D}, Rel ⟨K, H, F, borB fn.modes vs, [], er⟩ e σ' H' F' → backs e 0 fn.modes = some b → r.back = b → FnPost K cl H H' F' Q E r.out := fun {e σ' H' F' b} R hb hrb => by
      refine post H' F' ⟨fun a o h hn => R.keep a o h (fun z => hn (borB_addr.mp z)), R.fz, R.fz', R.tr⟩ ?_
      rw [hrb]
      exact backs_ok R fn.modes vs 0 b (fun j => by simp) (fun j => by simp) ok.len.1 borR hb
    cases hs : evSs Γ G ss (enter N.length fn.modes ds) with
    | bad => rw [hs] at hrun; cases hrun
    | brk e => rw [hs] at hrun; cases hrun
    | cnt e => rw [hs] at hrun; cases hrun
    | nx e =>
      rw [hs] at hrun
      simp only [leave, Option.map_eq_some_iff] at hrun
      obtain ⟨b, hb, rfl⟩ := hrun
      intro σ' H' F' g R
      exact fin R hb rfl .non .non
    | ret o e =>
      rw [hs] at hrun
      intro σ' H' F' v g R hv
      cases o with
      | val d =>
        simp only [leave, Option.map_eq_some_iff] at hrun
        obtain ⟨b, hb, rfl⟩ := hrun
        exact fin R hb rfl v hv
      | own d =>
        simp only [leave, Option.map_eq_some_iff] at hrun
        obtain ⟨b, hb, rfl⟩ := hrun
        obtain ⟨a, rfl, t, hf, h0, _⟩ := hv
        exact fin R hb rfl a h0 hf t
    | exc x e =>
      rw [hs] at hrun
      simp only [leave, Option.map_eq_some_iff] at hrun
      obtain ⟨b, hb, rfl⟩ := hrun
      intro σ' H' F' g R cc dd hx
      exact fin R hb rfl cc dd hx
  · cases hrun
/-- a def of the table at its place: its promise, calm or hot -/
def Prom (P : Program) (w : World) (K : PySem.W.Frag) (mg : Str → Option Value) (base : Heap) (cl : Cl) (hot : Bool) (k : Nat) (f : Addr) (fd : FuncData) (ps : List Str) (fn : Fn) : Prop :=
  (hot = false → FnG P w K mg base (L2N.CX P w) k f fd ps (spOf K cl fn)) ∧ (hot = true → FnE P w K mg base (L2N.CX P w) cl k f fd ps (fun er => spOf K cl fn er))
/-- THE RULE for a def: its text is that of the program, and its meaning is what the evaluator gives -/
theorem def_ok {k : Nat} {f : Addr} {name qual : Str} {params : Arguments} {body : List Stmt} {scope : Scope} {dV kV doc pm cdv ct oc : Value} {an od : Option Addr} {osl : Array (Option Value)} {ps : List Str} {c : Ck} {cl : Cl} {Γ : List Fn} {G : List D} {fn : Fn} {ss : List S}
    (lk : K.lookup f = some ⟨oc, od, .func (PySem.W.fnOf name qual params body scope dV kV doc pm an cdv ct), osl⟩) (hcd : PySem.W.codeIn K cdv qual = true) (S : FnScope c.N ps scope)
    (hchk : chkSs c scope ss body = true) (hlen : fn.modes.length = ps.length) (hsem : ∀ ds r, fn.mf ds = some r → runDef Γ G c.N.length fn.modes ss ds = some r)
    (nob : ∀ b ∈ bnames, mg b = none) (glob : ∀ (j : Nat) x d, c.gls[j]? = some x → G[j]? = some d → ∃ v u, mg x = some u ∧ RelV v u ∧ ∀ H F, Rep K H F v d)
    (fnl : ∀ (i : Nat) x, c.fns[i]? = some x → ∃ fn, Γ[i]? = some fn)
    (fns : ∀ (i : Nat) fn x, Γ[i]? = some fn → c.fns[i]? = some x → i < c.self → ∃ (j : Nat) (f : Addr) (fd : FuncData) (ps : List Str) (dvs : List V) (dus : List Value), j ≤ k ∧ mg x = some (.ref f) ∧ PySem.W.keepIn K (.ref f) = true ∧ Binds K fd ps dus ∧ Vals dvs dus ∧
      (∀ H F, RepL K H F dvs fn.dflt) ∧ Prom P w K mg base cl (c.hots.contains i) j f fd ps fn)
    (ecl : ∀ (n : Nat) x, c.cls[n]? = some x → ∃ Cn : Addr, cl n = some (.ref Cn) ∧ mg x = some (.ref Cn))
    (kit : ∀ (n m : Nat) vn vm, cl n = some vn → cl m = some vm → ∃ Cn Cm : Addr, vn = .ref Cn ∧ vm = .ref Cm ∧ L2.ExcC K Cn ∧ PySem.W.kitOne K (.ref Cn) (.ref Cm) = some (c.sub n m) ∧ PySem.W.exmOne K (.ref Cn) (.ref Cm) = some (c.sub n m))
    (clb : ∀ (n : Nat) v, cl n = some v → n < c.cls.length)
    (cls : ∀ (n : Nat) x, c.cls[n]? = some x → ∃ Cn : Addr, cl n = some (.ref Cn) ∧ ∀ X : Cx, X.K = K → X.mg = mg → Gl X x → (x == ("__debug__" : Str)) = false → ∀ m j p p2 pos, L2N.PMk X (.Call (.Name x p) [.Constant (.str m) j p2] [] pos) (fun _ H Q => Q (.ref Cn) none H)) :
    Prom P w K mg base cl c.hot (k + 1) f (PySem.W.fnOf name qual params body scope dV kV doc pm an cdv ct) ps fn := by
  have hlen' : ∀ er vs H Q E, spOf K cl fn er vs H Q E → vs.length = ps.length := fun er vs H Q E h => by
    obtain ⟨F, ds, r, _, ok, _⟩ := h
    rw [ok.len.1, hlen]
  have hpl : fn.modes.length ≤ c.N.length := by rw [hlen]; have := congrArg List.length S.pre; rw [List.length_take] at this; omega
  refine ⟨fun hc => ?_, fun hc => ?_⟩
  · refine fn_g lk hcd S (hlen' none) fun A outer s H vs Q E hgd hr hsp => ?_
    obtain ⟨F, ds, r, tr, ok, sep, hmf, post⟩ := hsp
    have xs : XS (cxOf (L2N.CX P w) P w K mg base c.N qual scope f cdv A outer s H E) (fun cls d _ H' => E cls d H') c scope ⟨K, H, F, borB fn.modes vs, [], none⟩ cl Γ G := {
      xo := {
        K := rfl
        N := rfl
        nd := S.nd
        sc := rfl
        calm := fun _ => rfl
        un := hr.units
        gd := fun _ => hgd
        er0 := fun _ => rfl
        er := fun z => by rw [hc] at z; cases z
        tk := L2N.takes_of rfl rfl rfl rfl
        ecl := ecl
        kit := kit
        clb := clb
        nob := nob
        glob := glob
        fnl := fnl
        fn := fun i fn x h1 h2 h3 _ => by
          obtain ⟨j, f, fd, ps, dvs, dus, hj, q1, q2, q3, q4, q5, q6⟩ := fns i fn x h1 h2 h3
          exact ⟨fun z => ⟨j, f, fd, ps, dvs, dus, hr.mono hj, q1, q2, q3, q4, q5, q6.1 z⟩, fun z => ⟨j, f, fd, ps, dvs, dus, L2H.roomH_of (hr.mono hj), q1, q2, q3, q4, q5, q6.2 z⟩⟩ }
      st := fun n h => ⟨stored_loc h, .inl rfl⟩
      kind := S.kind
      passes := passes_of rfl
      stk := rfl
      frm := rfl
      cls := fun n x h => by
        obtain ⟨Cn, h1, h2⟩ := cls n x h
        exact ⟨Cn, h1, fun Y hK hm hg hd => h2 Y hK hm hg hd⟩ }
    exact ⟨_, sndSs ss xs body hchk, body_end tr ok sep post hpl (hsem ds r hmf)⟩
  · refine fn_e lk hcd S (fun er => hlen' er) fun A outer s H vs Q E p x hi hr hsp => ?_
    obtain ⟨F, ds, r, tr, ok, sep, hmf, post⟩ := hsp
    have xs : XS (L2H.cxH (L2N.CX P w) P w K mg base c.N qual scope f cdv A outer s H E p) (fun cls d _ H' => E cls d H') c scope ⟨K, H, F, borB fn.modes vs, [], some (p.1, x)⟩ cl Γ G := {
      xo := {
        K := rfl
        N := rfl
        nd := S.nd
        sc := rfl
        calm := fun z => by rw [hc] at z; cases z
        un := by have h1 := hr.un; show (A.deeper (envOfC qual scope s.heap.objs.size f cdv)).units + 64 < cLine; omega
        gd := fun z => by rw [hc] at z; cases z
        er0 := fun z => by rw [hc] at z; cases z
        er := fun _ => ⟨p.1, x, p.2, rfl, List.mem_cons_self, hi⟩
        tk := L2N.takes_of rfl rfl rfl rfl
        ecl := ecl
        kit := kit
        clb := clb
        nob := nob
        glob := glob
        fnl := fnl
        fn := fun i fn x h1 h2 h3 h4 => by
          obtain ⟨j, f, fd, ps, dvs, dus, hj, q1, q2, q3, q4, q5, q6⟩ := fns i fn x h1 h2 h3
          have hot : c.hots.contains i = true := h4.elim id fun z => by rw [hc] at z; cases z
          refine ⟨fun z => ?_, fun z => ⟨j, f, fd, ps, dvs, dus, hr.mono hj, q1, q2, q3, q4, q5, q6.2 z⟩⟩
          rw [hot] at z; cases z }
      st := fun n h => ⟨stored_loc h, .inl rfl⟩
      kind := S.kind
      passes := passes_of rfl
      stk := rfl
      frm := rfl
      cls := fun n x h => by
        obtain ⟨Cn, h1, h2⟩ := cls n x h
        exact ⟨Cn, h1, fun Y hK hm hg hd => h2 Y hK hm hg hd⟩ }
    exact ⟨_, sndSs ss xs body hchk, body_end tr ok sep post hpl (hsem ds r hmf)⟩
end
end Mini

set_option Elab.async false
set_option linter.all false
set_option maxRecDepth 100000
/-! Mini: a law's end. -/
namespace Mini
open PySem PySem.Spec PyProof.Rows L2
/-- the abstract heap of the law's call: the script alone is known, if it is no object of the module -/
def scr (a : Addr) (o : Obj) (ns : List Int) (isK : Bool) : Hp := fun b => if isK = false ∧ b = a then some (.frz o (.lst (ns.map V.int))) else none
theorem scr_inv {a b : Addr} {o : Obj} {ns : List Int} {k : Bool} {u : HO} (h : scr a o ns k b = some u) : k = false ∧ b = a ∧ u = .frz o (.lst (ns.map V.int)) := by
  unfold scr at h
  split at h
  · rename_i q; cases h; exact ⟨q.1, q.2, rfl⟩
  · cases h
theorem law_g {P : Program} {w : World} {K : PySem.W.Frag} {mg mb : Str → Option Value} {CX : CXT} {k : Nat} {fa a : Addr} {fd : FuncData} {x : Str} {sp : Sp} {s₁ : Shared} {vs : List Value} {ns : List Int}
    (KX : K.In s₁.heap) (hns : s₁.heap.Ns mainGlobals mg) (hb : s₁.heap.Ns builtinsNs mb) (hbb : ∀ x : Str, x ≠ "__name__" → mb x = bootBuiltins x) (hlim : s₁.heap.NoLimit) (hg : s₁.gens = #[])
    (ha : s₁.heap.get? a = some { cls := .type "list", data := .seq vs.toArray }) (hi : IntsAre vs ns) (hl : ns.length ≤ sizeLine) (hr : Room k callerA)
    (F : ∀ base : Heap, K.In base → base.Ns mainGlobals mg → FnG P w K mg base CX k fa fd [x] sp) (hbind : ∀ (s : Shared) (u : Value), BindsTo s fd ⟨[u], []⟩ [(x, u)])
    (hsp : ∀ H : Hp, Only H → SqL K H a (ns.map V.int) → sp [.ref a] H (fun v _ => v = .bl true) fun _ _ _ => False)
    (hCX : ∀ H e s', CX [] H s₁ (fun _ _ _ => False) e s' → False) :
    codeAny (model P w) callerA (.call (.ref fa) ⟨[.ref a], []⟩) (fun r s' => r = .ok (.ret (.bool true)) ∧ OldK s₁.heap s'.heap ∧ s'.os = s₁.os ∧ AllBare s'.gens) s₁ := by
  have rv := vals_ints hi
  have lenV := hi.length
  let ob : Obj := { cls := .type "list", data := .seq vs.toArray }
  let isK : Bool := (K.lookup a).isSome
  let H : Hp := scr a ob ns isK
  have inv : ∀ b u, H b = some u → isK = false ∧ b = a ∧ u = .frz ob (.lst (ns.map V.int)) := fun b u h => scr_inv h
  have only : Only H := fun b => by
    cases q : H b with
    | none => exact .inl rfl
    | some u => obtain ⟨_, _, rfl⟩ := inv b u q; exact .inr ⟨_, _, rfl⟩
  have seq : SqL K H a (ns.map V.int) := by
    cases q : K.lookup a with
    | none =>
      have hk : isK = false := by show (K.lookup a).isSome = false; rw [q]; rfl
      exact .inl (.inr ⟨ob, if_pos ⟨hk, rfl⟩⟩)
    | some o =>
      have e := KX a o q
      rw [ha] at e; cases e
      exact .inr ⟨_, vs.toArray, _, q, rfl, rfl, rfl, by rw [List.size_toArray, lenV]; exact hl, by simpa using rv⟩
  have hok : HOk P w H s₁.heap := fun b u z => by
    obtain ⟨_, rfl, rfl⟩ := inv b u z
    exact ⟨ha, by rw [List.length_map]; exact hl, vs, _, rv, ha⟩
  have noData : ∀ {b : Addr} {o : Obj}, s₁.heap.get? b = some o → (∀ xs n, o.data ≠ .seq xs n) → H b = none := fun {b o} e d => by
    cases q : H b with
    | none => rfl
    | some u =>
      obtain ⟨_, rfl, _⟩ := inv b u q
      rw [ha] at e; cases e
      exact absurd rfl (d _ _)
  have nsK : ∀ {b : Addr} {m : Str → Option Value}, s₁.heap.Ns b m → (hidT s₁.heap H).Ns b m := fun {b m} ⟨o, es, ep, e, d, r⟩ =>
    ⟨o, es, ep, hidT_get e (noData e fun xs n z => by rw [d] at z; cases z), d, r⟩
  have kIn : K.In (hidT s₁.heap H) := fun b o e => hidT_get (KX b o e) (by
    cases q : H b with
    | none => rfl
    | some u =>
      obtain ⟨hk, rfl, _⟩ := inv b u q
      have hk' : (K.lookup b).isSome = false := hk
      rw [e] at hk'; cases hk')
  have md : Mod K mg (hidT s₁.heap H) := by
    obtain ⟨mc, h1, h2⟩ := hlim
    exact ⟨kIn, nsK hns, ⟨mb, nsK hb, hbb⟩, ⟨mc, nsK h1, h2⟩⟩
  have noFr : ∀ b : Addr, b ∉ frs [] := fun b z => by cases (show b ∈ ([] : List Addr) from z)
  have e0 : Env0 P w K mg (hidT s₁.heap H) callerA [] s₁ H := ⟨rfl, md, fun b o e => of_hidT e, Nat.le_of_eq (hidT_size _ _), trivial, fun b z => absurd z (noFr b), hok, .of_eq hg⟩
  refine codeAny_mono ((F _ kIn (nsK hns)).run callerA [] s₁ H ⟨[.ref a], []⟩ [.ref a] [.ref a] _ _ rfl hr e0 (hbind s₁ (.ref a)) (.cons rfl .nil) (hsp H only seq)) fun r s' h => ?_
  match r, h with
  | .error e, h => exact (hCX H e s' h).elim
  | .ok .next, h => exact False.elim h
  | .ok .brk, h => exact False.elim h
  | .ok .cont, h => exact False.elim h
  | .ok (.ret u), h =>
    obtain ⟨v, H', os, bare, un, hok', r', q⟩ := h
    have q' : v = .bl true := q
    subst q'
    have eu : u = Value.bool true := r'
    subst eu
    refine ⟨rfl, OldK.of_keep fun b o e => ?_, os, bare⟩
    cases z : H b with
    | none => exact un.keep b o e z (noFr b) (by simp)
    | some u =>
      obtain ⟨_, rfl, rfl⟩ := inv b u z
      obtain ⟨e1, _⟩ := hok b _ z
      obtain ⟨e2, _⟩ := hok' b _ (un.frzs b ob _ z)
      rw [e] at e1; cases e1
      exact e2
theorem walk_g {l : PySem.W.OpenLaw} {n k : Nat} {q : Program} {loose : List Str} {XP : (Str → Option Value) → Heap → Prop} {YP : World → Heap → Prop} {d : DefRec} {K : Params → PySem.W.Frag} {sp : World → Sp} {x : Str}
    (hn : l.most = some n) (hn2 : n ≤ sizeLine) (hdf : d.params.defaults = []) (hr : Room k callerA)
    (hY : ∀ (w : World) (h : Heap), YP w h → (K w.params).In h)
    (F : ∀ (w : World) (mg : Str → Option Value) (fa : Addr) (h : Heap), (K w.params).In h → h.Ns mainGlobals mg → mg d.name = some (.ref fa) →
      ∃ fd : FuncData, (∀ (s : Shared) (u : Value), BindsTo s fd ⟨[u], []⟩ [(x, u)]) ∧
        ∀ base : Heap, (K w.params).In base → base.Ns mainGlobals mg → FnG l.prog w (K w.params) mg base (L2N.CX l.prog w) k fa fd [x] (sp w))
    (hsp : ∀ (w : World) (H : Hp) (a : Addr) (ns : List Int), ns.length ≤ n → Only H → SqL (K w.params) H a (ns.map V.int) → sp w [.ref a] H (fun v _ => v = .bl true) fun _ _ _ => False) :
    PySem.W.WalkO q loose XP YP l.row.toRowW d [] (fun f vs => PySem.call f vs) := by
  refine Att.attach_call hn hdf fun w s₀ s₁ mg mb fa o pm cd doc a vs ns G Y ho hd hcd hmg hobj hints hlen hg => ?_
  have KX := hY w _ Y
  obtain ⟨fd, hb, hF⟩ := F w mg fa _ KX G.T.g hmg
  exact law_g KX G.T.g G.T.b G.T.builtins G.T.nolimit hg hobj hints (Nat.le_trans hlen hn2) hr hF hb (fun H hO hS => hsp w H a ns hlen hO hS) fun H e s' ⟨_, _, _, _, _, _, _, _, _, _, _, _, h⟩ => h
end Mini

set_option Elab.async false
set_option linter.all false
set_option maxRecDepth 100000
/-! Mini: a law's defs, one after another. -/
namespace Mini
open PySem PySem.Spec PyProof.Rows L2
section
variable {P : Program} {w : World} {K : PySem.W.Frag} {mg : Str → Option Value} {base : Heap} {cl : Cl}
theorem Prom.more {hot : Bool} {k k' : Nat} {f : Addr} {fd : FuncData} {ps : List Str} {fn : Fn} (h : Prom P w K mg base cl hot k f fd ps fn) (hk : k ≤ k') : Prom P w K mg base cl hot k' f fd ps fn :=
  ⟨fun z => ⟨(h.1 z).len, fun A outer s H args us vs Q E hg hr => (h.1 z).run A outer s H args us vs Q E hg (hr.mono hk)⟩,
    fun z => ⟨(h.2 z).len, fun A outer s H args us vs Q E p x hr => (h.2 z).run A outer s H args us vs Q E p x (hr.mono hk)⟩⟩
/-- the def x holds its promise -/
structure Df (P : Program) (w : World) (K : PySem.W.Frag) (mg : Str → Option Value) (base : Heap) (cl : Cl) (hot : Bool) (lv : Nat) (x : Str) (fn : Fn) : Prop where
  ex : ∃ (f : Addr) (fd : FuncData) (ps : List Str), mg x = some (.ref f) ∧ PySem.W.keepIn K (.ref f) = true ∧ Binds K fd ps [] ∧ fn.dflt = [] ∧ Prom P w K mg base cl hot lv f fd ps fn
theorem Df.more {hot : Bool} {lv lv' : Nat} {x : Str} {fn : Fn} (h : Df P w K mg base cl hot lv x fn) (hl : lv ≤ lv') : Df P w K mg base cl hot lv' x fn := by
  obtain ⟨f, fd, ps, h1, h2, h3, h4, h5⟩ := h.ex
  exact ⟨f, fd, ps, h1, h2, h3, h4, h5.more hl⟩
/-- the first m defs do -/
def Tab (P : Program) (w : World) (K : PySem.W.Frag) (mg : Str → Option Value) (base : Heap) (cl : Cl) (Γ : List Fn) (fns : List Str) (hots : List Nat) (m lv : Nat) : Prop :=
  ∀ (i : Nat) fn x, Γ[i]? = some fn → fns[i]? = some x → i < m → Df P w K mg base cl (hots.contains i) lv x fn
theorem tab_zero {Γ : List Fn} {fns : List Str} {hots : List Nat} {lv : Nat} : Tab P w K mg base cl Γ fns hots 0 lv := fun i _ _ _ _ h => absurd h (Nat.not_lt_zero i)
theorem tab_succ {Γ : List Fn} {fns : List Str} {hots : List Nat} {m lv lv' : Nat} {x : Str} {fn : Fn} {hot : Bool} (T : Tab P w K mg base cl Γ fns hots m lv) (d : Df P w K mg base cl hot lv' x fn) (h1 : Γ[m]? = some fn) (h2 : fns[m]? = some x) (h3 : hots.contains m = hot) (hl : lv ≤ lv') : Tab P w K mg base cl Γ fns hots (m + 1) lv' := by
  intro i fn' x' k1 k2 k3
  by_cases hi : i = m
  · subst hi
    rw [h1] at k1; rw [h2] at k2
    cases k1; cases k2
    rw [h3]; exact d
  · exact (T i fn' x' k1 k2 (by omega)).more hl
/-- the exception classes -/
structure ClsOk (K : PySem.W.Frag) (mg : Str → Option Value) (names : List Str) (sub : Nat → Nat → Bool) (cl : Cl) : Prop where
  ecl : ∀ (n : Nat) x, names[n]? = some x → ∃ Cn : Addr, cl n = some (.ref Cn) ∧ mg x = some (.ref Cn)
  kit : ∀ (n m : Nat) vn vm, cl n = some vn → cl m = some vm → ∃ Cn Cm : Addr, vn = .ref Cn ∧ vm = .ref Cm ∧ L2.ExcC K Cn ∧ PySem.W.kitOne K (.ref Cn) (.ref Cm) = some (sub n m) ∧ PySem.W.exmOne K (.ref Cn) (.ref Cm) = some (sub n m)
  clb : ∀ (n : Nat) v, cl n = some v → n < names.length
  cls : ∀ (n : Nat) x, names[n]? = some x → ∃ Cn : Addr, cl n = some (.ref Cn) ∧ ∀ X : Cx, X.K = K → X.mg = mg → Gl X x → (x == ("__debug__" : Str)) = false → ∀ m j p p2 pos, L2N.PMk X (.Call (.Name x p) [.Constant (.str m) j p2] [] pos) (fun _ H Q => Q (.ref Cn) none H)
/-- what is written of one class -/
structure ClsAt (K : PySem.W.Frag) (mg : Str → Option Value) (x : Str) (C : Addr) : Prop where
  gC : mg x = some (.ref C)
  ex : L2.ExcC K C
  xC : PySem.W.excIn K C [.type "ValueError", .type "Exception", .type "BaseException", .type "object"] "ValueError.__new__" = true
  kC : PySem.W.keepIn K (.ref C) = true
  tC : PySem.W.typeIn K (.ref C) = some (.type "type")
  iC : PySem.W.isClsIn K C = true
def clOf (Cs : List Addr) : Cl := fun n => (Cs[n]?).map .ref
theorem clsOk_mk {names : List Str} {Cs : List Addr} {sub : Nat → Nat → Bool} (hl : names.length = Cs.length) (at_ : ∀ (n : Nat) x C, names[n]? = some x → Cs[n]? = some C → ClsAt K mg x C)
    (hs : ∀ (n m : Nat) C D, Cs[n]? = some C → Cs[m]? = some D → PySem.W.subIn K (.ref C) (.ref D) = some (sub n m)) (hr : ∀ (n m : Nat) C, Cs[n]? = some C → Cs[m]? = some C → sub n m = true) : ClsOk K mg names sub (clOf Cs) := by
  have get : ∀ (n : Nat) x, names[n]? = some x → ∃ C, Cs[n]? = some C := fun n x h => by
    have hn : n < Cs.length := by rw [← hl]; exact (List.getElem?_eq_some_iff.mp h).1
    exact ⟨_, List.getElem?_eq_getElem hn⟩
  have got : ∀ (n : Nat) v, clOf Cs n = some v → ∃ x C, v = .ref C ∧ names[n]? = some x ∧ Cs[n]? = some C := fun n v h => by
    unfold clOf at h
    rw [Option.map_eq_some_iff] at h
    obtain ⟨C, h1, rfl⟩ := h
    have hn : n < names.length := by rw [hl]; exact (List.getElem?_eq_some_iff.mp h1).1
    exact ⟨_, C, rfl, List.getElem?_eq_getElem hn, h1⟩
  refine ⟨fun n x h => ?_, fun n m vn vm h1 h2 => ?_, fun n v h => ?_, fun n x h => ?_⟩
  · obtain ⟨C, hC⟩ := get n x h
    exact ⟨C, by unfold clOf; rw [hC]; rfl, (at_ n x C h hC).gC⟩
  · obtain ⟨x, C, rfl, n1, n2⟩ := got n vn h1
    obtain ⟨y, D, rfl, m1, m2⟩ := got m vm h2
    have tC := at_ n x C n1 n2
    have tD := at_ m y D m1 m2
    have s := hs n m C D n2 m2
    have isD : (PySem.W.clsIn K D).isSome = true := tD.iC
    refine ⟨C, D, rfl, rfl, tC.ex, ?_, PySem.W.exm_ref tD.ex.hs tD.ex.hd tD.tC s⟩
    unfold PySem.W.kitOne
    split
    · rename_i he
      have : C = D := by
        have e1 : (Value.ref C) = .ref D := by simpa using he
        cases e1; rfl
      subst this
      rw [hr n m C n2 m2]
    · unfold PySem.W.kitCls
      dsimp only
      rw [isD, tD.tC]
      exact s
  · obtain ⟨x, C, _, n1, _⟩ := got n v h
    exact (List.getElem?_eq_some_iff.mp n1).1
  · obtain ⟨C, hC⟩ := get n x h
    have t := at_ n x C h hC
    refine ⟨C, by unfold clOf; rw [hC]; rfl, fun X hK hm hg hd m j p p2 pos => ?_⟩
    subst hK hm
    exact L2N.pmk_own PySem.F.excBase_ValueError t.xC t.gC t.kC (raises_own t.ex.hs t.tC) hg hd
/-- one def more -/
theorem def_prom {k : Nat} {f : Addr} {x : Str} {st : Stmt} {dV kV doc pm cdv ct oc : Value} {an od : Option Addr} {osl : Array (Option Value)} {ps : List Str} {c : Ck} {fn : Fn} {ss : List S} {Γ : List Fn} {G : List D}
    (lk : K.lookup f = some ⟨oc, od, .func (PySem.W.fnOf x x (L2.defArgs st) (L2.defBody st) (L2.defScope st) dV kV doc pm an cdv ct), osl⟩) (hcd : PySem.W.codeIn K cdv x = true)
    (S : FnScope c.N ps (L2.defScope st)) (hchk : chkSs c (L2.defScope st) ss (L2.defBody st) = true) (hlen : fn.modes.length = ps.length)
    (hsem : ∀ ds r, fn.mf ds = some r → runDef Γ G c.N.length fn.modes ss ds = some r) (hΓ : Γ.length = c.fns.length)
    (nob : ∀ b ∈ bnames, mg b = none) (glob : ∀ (j : Nat) x d, c.gls[j]? = some x → G[j]? = some d → ∃ v u, mg x = some u ∧ RelV v u ∧ ∀ H F, Rep K H F v d)
    (CO : ClsOk K mg c.cls c.sub cl) (T : Tab P w K mg base cl Γ c.fns c.hots c.self k) : Prom P w K mg base cl c.hot (k + 1) f (PySem.W.fnOf x x (L2.defArgs st) (L2.defBody st) (L2.defScope st) dV kV doc pm an cdv ct) ps fn := by
  refine def_ok (c := c) (Γ := Γ) (G := G) (ss := ss) lk hcd S hchk hlen hsem nob glob (fun i x h => ?_) (fun i fn x h1 h2 h3 => ?_) CO.ecl CO.kit CO.clb CO.cls
  · have hi : i < Γ.length := by rw [hΓ]; exact (List.getElem?_eq_some_iff.mp h).1
    exact ⟨_, List.getElem?_eq_getElem hi⟩
  · obtain ⟨f, fd, ps, q1, q2, q3, q4, q5⟩ := (T i fn x h1 h2 h3).ex
    exact ⟨k, f, fd, ps, [], [], Nat.le_refl k, q1, q2, q3, .nil, fun _ _ => by rw [q4]; exact .nil, q5⟩
/-- a def with defaults, called with all -/
theorem binds_dflt {fd : FuncData} {ps : List Str} {T : Addr} {o : Obj} {its : Array Value} {n : Nat} (hd : fd.defaults = .ref T) (lT : K.lookup T = some o) (oT : o.data = .seq its n)
    (h : ∀ us : List Value, us.length = ps.length → ∃ k : Option (Array Value) → Sem (List (Str × Value)), bindArgs fd ⟨us, []⟩ = (seqItems? fd.defaults >>= k) ∧ k (some its) = pure (ps.zip us)) : Binds K fd ps [] := fun s us X hl => by
  rw [List.append_nil] at hl ⊢
  obtain ⟨k, h1, h2⟩ := h us hl
  exact .of_defaults hd (X _ _ lT) oT h1 h2
def intsV : List Value → Option (List Int)
  | [] => some []
  | .int i _ :: r => (intsV r).map (i :: ·)
  | _ :: _ => none
theorem intsV_vals : ∀ {us : List Value} {ns : List Int}, intsV us = some ns → Vals (ns.map V.int) us
  | [], ns, h => by cases h; exact .nil
  | u :: us, ns, h => by
    cases u <;> first
      | (cases h; done)
      | skip
    simp only [intsV, Option.map_eq_some_iff] at h
    obtain ⟨ms, h1, rfl⟩ := h
    exact .cons ⟨_, rfl⟩ (intsV_vals h1)
theorem repL_ints {H : Hp} {F : Fz} : ∀ ns : List Int, RepL K H F (ns.map V.int) (ns.map D.int)
  | [] => .nil
  | n :: ns => .cons (.int n) (repL_ints ns)
/-- a tuple of ints of the module -/
theorem rep_tupK {a : Addr} {o : Obj} {its : Array Value} {n : Nat} {ns : List Int} (hl : K.lookup a = some o) (hc : o.cls = .type "tuple") (hd : o.data = .seq its n) (hv : intsV its.toList = some ns) (hz : its.size ≤ sizeLine) : ∀ H F, Rep K H F (.ref a) (.tup (ns.map .int)) :=
  fun H F => .tupK (fun H' => .inr ⟨o, its, n, hl, hc, hd, hz, intsV_vals hv⟩) (repL_ints ns)
end
/-- the script's list of ints, as the law gets it -/
theorem spec_law {K : PySem.W.Frag} {cl : Cl} {fn : Fn} (hm : fn.modes = [.st]) (hf : ∀ ns : List Int, ns.length ≤ 63 → fn.mf [.lst (ns.map .int)] = some ⟨.val (.bl true), []⟩) (H : Hp) (a : Addr) (ns : List Int) (hl : ns.length ≤ 63) (hO : Only H) (hS : SqL K H a (ns.map V.int)) :
    spOf K cl fn none [.ref a] H (fun v _ => v = .bl true) fun _ _ _ => False := by
  have st : StL K H (fun _ => False) a (.lst (ns.map .int)) := by
    refine ⟨_, _, rfl, ?_, repL_ints ns⟩
    rcases hS with (h | ⟨o, h⟩) | h
    · rcases hO a with z | ⟨o, xs, z⟩
      · rw [z] at h; cases h
      · rw [z] at h; cases h
    · exact .inl ⟨o, h⟩
    · exact .inr fun H' => .inr h
  refine ⟨fun _ => False, [.lst (ns.map .int)], ⟨.val (.bl true), []⟩, fun _ h => h.elim, ?_, ?_, hf ns hl, fun H' F' _ _ v hv => ?_⟩
  · rw [hm]; exact .st st .nil
  · rw [hm]; trivial
  · cases hv; rfl
theorem walk_any {l : PySem.W.OpenLaw} {k : Nat} {q : Program} {loose : List Str} {XP : (Str → Option Value) → Heap → Prop} {YP : World → Heap → Prop} {d : DefRec} {K : Params → PySem.W.Frag} {x : Str} {fn : Fn}
    (hn : l.most = some 63) (hdf : d.params.defaults = []) (hr : Room k callerA) (hm : fn.modes = [.st]) (hf : ∀ ns : List Int, ns.length ≤ 63 → fn.mf [.lst (ns.map .int)] = some ⟨.val (.bl true), []⟩)
    (hY : ∀ (w : World) (h : Heap), YP w h → (K w.params).In h)
    (F : ∀ (w : World) (mg : Str → Option Value) (fa : Addr) (h : Heap), (K w.params).In h → h.Ns mainGlobals mg → mg d.name = some (.ref fa) →
      ∃ (cl : Cl) (fd : FuncData), (∀ (s : Shared) (u : Value), BindsTo s fd ⟨[u], []⟩ [(x, u)]) ∧
        ∀ base : Heap, (K w.params).In base → base.Ns mainGlobals mg → FnG l.prog w (K w.params) mg base (L2N.CX l.prog w) k fa fd [x] (spOf (K w.params) cl fn)) :
    PySem.W.WalkO q loose XP YP l.row.toRowW d [] (fun f vs => PySem.call f vs) :=
  walk_g (n := 63) (k := k) (x := x) (sp := fun w vs H Q E => ∀ cl : Cl, spOf (K w.params) cl fn none vs H Q E) hn (by decide) hdf hr hY
    (fun w mg fa h KX G hmg => by
      obtain ⟨cl, fd, h1, h2⟩ := F w mg fa h KX G hmg
      exact ⟨fd, h1, fun base b1 b2 => ⟨fun vs H Q E hs => (h2 base b1 b2).len vs H Q E (hs cl), fun A outer s H args us vs Q E g r e0 hb hv hs => (h2 base b1 b2).run A outer s H args us vs Q E g r e0 hb hv (hs cl)⟩⟩)
    fun w H a ns hl hO hS cl => spec_law hm hf H a ns hl hO hS
end Mini

set_option Elab.async false
set_option linter.all false
/-! Mini: laws of the evaluator's loops. -/
namespace Mini
/-- a place whose value may be overwritten -/
def Sl.free : Sl → Bool
  | .bor _ => false
  | _ => true
theorem put_nm {e : Ev} {i : Nat} {d : D} (h : (e.at i).free = true) (hi : i < e.length) : put (.nm i) d e = some (e.set i (.val d)) := by
  unfold put
  cases q : e.at i <;> first
    | (rw [q] at h; cases h; done)
    | simp [hi]
theorem putOut_val {i : Nat} {d : D} {e : Ev} : putOut (.nm i) (.val d) e = put (.nm i) d e := by
  simp [putOut]
theorem putOut_own {e : Ev} {i : Nat} {d : D} (h : (e.at i).free = true) (hi : i < e.length) : putOut (.nm i) (.own d) e = some (e.set i (.own d)) := by
  unfold putOut
  cases q : e.at i <;> first
    | (rw [q] at h; cases h; done)
    | (simp only [q, if_pos hi])
theorem free_no : Sl.free .no = true := rfl
theorem free_val (d : D) : Sl.free (.val d) = true := rfl
theorem free_own (d : D) : Sl.free (.own d) = true := rfl
theorem free_ro (d : D) : Sl.free (.ro d) = true := rfl
theorem free_st (d : D) : Sl.free (.st d) = true := rfl
theorem free_bor (d : D) : Sl.free (.bor d) = false := rfl
theorem log2_small {n k : Nat} (hk : 0 < k) (h : n < 2 ^ k) : n.log2 < k := by
  by_cases h0 : n = 0
  · subst h0; simpa using hk
  · exact (Nat.log2_lt h0).mpr h
theorem mulOk_small {i j : Int} (h1 : i.natAbs < 18446744073709551616) (h2 : j.natAbs < 18446744073709551616) : mulOk i j = true := by
  have a := log2_small (k := 64) (by decide) h1
  have b := log2_small (k := 64) (by decide) h2
  unfold mulOk
  exact decide_eq_true (by omega)
theorem divOk_small {j : Int} (h0 : j ≠ 0) (h : j.natAbs < 18446744073709551616) : divOk j = true := by
  have a := log2_small (k := 64) (by decide) h
  unfold divOk
  rw [Bool.and_eq_true]
  exact ⟨decide_eq_true h0, decide_eq_true (by omega)⟩
theorem put_nm' (e : Ev) (i : Nat) (d : D) : put (.nm i) d e = if (e.at i).free = true ∧ i < e.length then some (e.set i (.val d)) else none := by
  unfold put
  cases q : e.at i <;> simp [Sl.free]
theorem put_own' (e : Ev) (i : Nat) (d : D) : putOut (.nm i) (.own d) e = if (e.at i).free = true ∧ i < e.length then some (e.set i (.own d)) else none := by
  unfold putOut
  cases q : e.at i <;> simp [Sl.free, q]
theorem put_tup (ps : List Pat) (ds : List D) (e : Ev) : put (.tup ps) (.tup ds) e = putL ps ds e := by simp [put]
theorem putL_nil (e : Ev) : putL [] [] e = some e := by simp [putL]
theorem putL_cons (p : Pat) (ps : List Pat) (d : D) (ds : List D) (e : Ev) : putL (p :: ps) (d :: ds) e = (put p d e).bind (putL ps ds) := by
  rw [putL]
  cases put p d e <;> rfl
theorem putOut_tup (ps : List Pat) (o : Out) (e : Ev) : putOut (.tup ps) o e = put (.tup ps) o.d e := by
  simp [putOut]
/-- what a turn of a loop does: goes on, breaks, or returns -/
inductive St1 (σ : Type) where
  | go (s : σ) | brk (s : σ) | ret (o : Out) (s : σ) | exc (x : Ex) (s : σ)
def St1.run {α σ : Type} (step : σ → α → St1 σ) : σ → List α → St1 σ
  | s, [] => .go s
  | s, x :: xs => match step s x with
    | .go s' => St1.run step s' xs
    | .brk s' => .brk s'
    | .ret o s' => .ret o s'
    | .exc x s' => .exc x s'
/-- .. and a state of the evaluator -/
def St1.is {σ : Type} (Inv : σ → Ev → Prop) : St1 σ → SR → Prop
  | .go s, r => ∃ e, (r = .nx e ∨ r = .cnt e) ∧ Inv s e
  | .brk s, r => ∃ e, r = .brk e ∧ Inv s e
  | .ret o s, r => ∃ e, r = .ret o e ∧ Inv s e
  | .exc x s, r => ∃ e, r = .exc x e ∧ Inv s e
/-- the whole loop -/
def St1.end {σ : Type} (Inv : σ → Ev → Prop) : St1 σ → SR → Prop
  | .go s, r => ∃ e, r = .nx e ∧ Inv s e
  | .brk s, r => ∃ e, r = .nx e ∧ Inv s e
  | .ret o s, r => ∃ e, r = .ret o e ∧ Inv s e
  | .exc x s, r => ∃ e, r = .exc x e ∧ Inv s e
/-- Inv knows what is still to come -/
theorem forRun_ok {α σ : Type} {body : D → Ev → SR} (f : α → D) (Inv : List α → σ → Ev → Prop) (step : σ → α → St1 σ) (h : ∀ s x r e, Inv (x :: r) s e → (step s x).is (Inv r) (body (f x) e)) : ∀ (xs : List α) s e, Inv xs s e →
    (St1.run step s xs).end (fun s e => ∃ r, Inv r s e) (forRun body (xs.map f) e)
  | [], s, e, hI => ⟨e, rfl, [], hI⟩
  | x :: xs, s, e, hI => by
    have h1 := h s x xs e hI
    have ih := forRun_ok f Inv step h xs
    show (match step s x with
      | .go s' => St1.run step s' xs
      | .brk s' => .brk s'
      | .ret o s' => .ret o s'
      | .exc x s' => .exc x s').end _ (match body (f x) e with
        | .nx e' => forRun body (xs.map f) e'
        | .cnt e' => forRun body (xs.map f) e'
        | .brk e' => .nx e'
        | r => r)
    cases hs : step s x with
    | go s' =>
      rw [hs] at h1
      obtain ⟨e', h1 | h1, h2⟩ := h1 <;> rw [h1] <;> exact ih s' e' h2
    | brk s' =>
      rw [hs] at h1
      obtain ⟨e', h1, h2⟩ := h1
      rw [h1]; exact ⟨e', rfl, _, h2⟩
    | ret o s' =>
      rw [hs] at h1
      obtain ⟨e', h1, h2⟩ := h1
      rw [h1]; exact ⟨e', rfl, _, h2⟩
    | exc x s' =>
      rw [hs] at h1
      obtain ⟨e', h1, h2⟩ := h1
      rw [h1]; exact ⟨e', rfl, _, h2⟩
/-- a loop that neither returns nor raises -/
def St1.fin {σ : Type} : St1 σ → Option σ
  | .go s => some s
  | .brk s => some s
  | _ => none
theorem St1.end_fin {σ : Type} {Inv : σ → Ev → Prop} {r : SR} : ∀ {t : St1 σ} {s : σ}, t.fin = some s → t.end Inv r → ∃ e, r = .nx e ∧ Inv s e
  | .go s, _, h, k => by cases h; exact k
  | .brk s, _, h, k => by cases h; exact k
  | .ret _ _, _, h, _ => by cases h
  | .exc _ _, _, h, _ => by cases h
theorem isEmpty_snoc {α : Type} (l : List α) (y : α) : (l ++ [y]).isEmpty = false := by cases l <;> rfl
def outs {α σ : Type} (step : σ → α → Option D × σ) : σ → List α → List D × σ
  | s, [] => ([], s)
  | s, x :: xs => ((step s x).1.toList ++ (outs step (step s x).2 xs).1, (outs step (step s x).2 xs).2)
theorem compRun_ok {α σ : Type} {body : D → Ev → Res (Option D)} (f : α → D) (Inv : σ → Ev → Prop) (step : σ → α → Option D × σ) : ∀ (xs : List α), (∀ s x e, x ∈ xs → Inv s e → ∃ e', body (f x) e = .ok (step s x).1 e' ∧ Inv (step s x).2 e') →
    ∀ s e acc, Inv s e → acc.length + xs.length ≤ SZ → ∃ e', compRun body (xs.map f) acc e = .ok (acc ++ (outs step s xs).1) e' ∧ Inv (outs step s xs).2 e'
  | [], _, s, e, acc, hI, _ => ⟨e, by simp [compRun, outs], hI⟩
  | x :: xs, h, s, e, acc, hI, hl => by
    obtain ⟨e1, h1, h2⟩ := h s x e List.mem_cons_self hI
    have ih := compRun_ok f Inv step xs (fun s y e hy => h s y e (List.mem_cons_of_mem _ hy)) (step s x).2 e1
    rw [List.length_cons] at hl
    rw [List.map_cons, compRun, h1, Res.bind_ok]
    cases hq : (step s x).1 with
    | none =>
      obtain ⟨e2, k1, k2⟩ := ih acc h2 (by omega)
      exact ⟨e2, by simpa [outs, hq] using k1, k2⟩
    | some y =>
      obtain ⟨e2, k1, k2⟩ := ih (acc ++ [y]) h2 (by rw [List.length_append, List.length_singleton]; omega)
      refine ⟨e2, ?_, k2⟩
      show (if acc.length < SZ then compRun body (xs.map f) (acc ++ [y]) e1 else Res.bad) = _
      rw [if_pos (by omega)]
      simpa [outs, hq] using k1
theorem outs_map {α : Type} {σ : Type} (g : α → D) (s : σ) : ∀ xs : List α, outs (fun s x => (some (g x), s)) s xs = (xs.map g, s)
  | [] => rfl
  | x :: xs => by simp [outs, outs_map g s xs]
theorem intsD_map : ∀ ns : List Int, intsD (ns.map .int) = some ns
  | [] => rfl
  | n :: ns => by simp [intsD, intsD_map ns]
theorem blsD_map : ∀ ns : List Bool, blsD (ns.map .bl) = some ns
  | [] => rfl
  | n :: ns => by simp [blsD, blsD_map ns]
theorem strsD_map : ∀ ns : List (List Nat), strsD (ns.map .str) = some ns
  | [] => rfl
  | n :: ns => by simp [strsD, strsD_map ns]
theorem intsD_inv : ∀ {ds : List D} {ns : List Int}, intsD ds = some ns → ds = ns.map .int
  | [], ns, h => by cases h; rfl
  | d :: ds, ns, h => by
    cases d <;> simp [intsD] at h
    obtain ⟨ms, h1, rfl⟩ := h
    rw [intsD_inv h1]; rfl
theorem rangeL_map (lo : Int) : ∀ n : Nat, rangeL lo 1 n = (List.range n).map fun (k : Nat) => D.int (lo + (k : Int))
  | 0 => rfl
  | n + 1 => by
    rw [rangeL, rangeL_map (lo + 1) n, List.range_succ_eq_map, List.map_cons, List.map_map]
    congr 1
    · simp
    · apply List.map_congr_left
      intro k _
      simp only [Function.comp]
      congr 1
      omega
theorem range0 (n : Nat) : rangeL 0 1 n = (List.range n).map fun (k : Nat) => D.int (k : Int) := by
  rw [rangeL_map]; simp
/-! ### equations of the evaluator -/
def ofOut (o : Option Out) (e : Ev) : Res Out := match o with
  | some o => .ok o e
  | none => .bad
def rdS (s : Sl) (i : Nat) (e : Ev) : Res Opd := match s with
  | .no => .bad
  | .val d => .ok (.dv d) e
  | _ => .ok (.sl i) e
def vS (s : Sl) (i : Nat) (e : Ev) : Res Out := match s with
  | .val d => .ok (.val d) e
  | .own d => .ok (.val d) (e.set i (.val d))
  | _ => .bad
def mvS (s : Sl) (i : Nat) (e : Ev) : Res Out := match s with
  | .own d => .ok (.own d) (e.set i .no)
  | .val d => .ok (.val d) e
  | _ => .bad
def cons2 : Option D → Option (List D) → Option (List D)
  | some d, some ds => some (d :: ds)
  | _, _ => none
def getS (s : Sl) (n : Nat) : Option D := match s with
  | .own d => if n ≤ 1 then some d else none
  | .bor d => if n ≤ 1 then some d else none
  | .ro d => if n ≤ 1 then some d else none
  | .st d => if n = 0 then some d else none
  | _ => none
def stS (s : Sl) : Option D := match s with
  | .ro d => some d
  | .st d => some d
  | _ => none
def chainR (o : Option Out) (e : Ev) (k : Res Out) : Res Out := match o with
  | some (.val (.bl true)) => k
  | some (.val (.bl false)) => .ok (.val (.bl false)) e
  | _ => .bad
def truO (o : Option D) (e : Ev) : Res Out := match o with
  | some d => truthOf d e
  | none => .bad
def truB (o : Option Bool) (e : Ev) : Res Out := match o with
  | some k => .ok (.val (.bl k)) e
  | none => .bad
def gSl (s : Sl) : Option D := match s with
  | .own d => some d
  | .bor d => some d
  | _ => none
def sSl (s : Sl) (e : Ev) (i : Nat) (d : D) : Option Ev := match s with
  | .own _ => some (e.set i (.own d))
  | .bor _ => some (e.set i (.bor d))
  | _ => none
def muS (o : Option D) (k : Res Out) : Res Out := match o with
  | some (.lst _) => k
  | _ => .bad
def muT (o : Option (List D × D)) (i : Nat) (e : Ev) : Res Out := match o with
  | some (ys, r) => (match setOwn e i (.lst ys) with
      | some e2 => .ok (.val r) e2
      | none => .bad)
  | none => .bad

def muV (o : Option D) (m : Mu) (i : Nat) (ds : List D) (e : Ev) : Res Out := match o with
  | some (.lst xs) => muT (muL m xs ds) i e
  | _ => .bad
def okE (o : Option Ev) (r : D) : Res Out := match o with
  | some e2 => .ok (.val r) e2
  | none => .bad
def augS (s : Sl) (r : Res D) (i : Nat) (k : D → D → Ev → SR) : SR := match s with
  | .val a => SR.of r (k a)
  | _ => .bad
def augT (s : Sl) (o : Option Out) (i : Nat) (e : Ev) : SR := match s, o with
  | .val _, some (.val d) => SR.ofO (put (.nm i) d e)
  | _, _ => .bad
def valK (o : Option (List D)) (k : List D → SR) : SR := match o with
  | some ds => k ds
  | none => .bad
section
variable {Γ : List Fn} {G : List D}
def turnF (Γ : List Fn) (G : List D) (pat : Pat) (body : List S) (x : D) (e : Ev) : SR := SR.then (SR.ofO (put pat x e)) (evSs Γ G body)
theorem at0 (a : Sl) (l : Ev) : Ev.at (a :: l) 0 = a := rfl
theorem atS (a : Sl) (l : Ev) (i : Nat) : Ev.at (a :: l) (i + 1) = Ev.at l i := rfl
theorem ofOut_some (o : Out) (e : Ev) : ofOut (some o) e = .ok o e := rfl
theorem ofOut_none (e : Ev) : ofOut none e = .bad := rfl
theorem rdOp_eq (i : Nat) (e : Ev) : rdOp i e = rdS (e.at i) i e := rfl
theorem rdS_val (d : D) (i : Nat) (e : Ev) : rdS (.val d) i e = .ok (.dv d) e := rfl
theorem rdS_own (d : D) (i : Nat) (e : Ev) : rdS (.own d) i e = .ok (.sl i) e := rfl
theorem rdS_bor (d : D) (i : Nat) (e : Ev) : rdS (.bor d) i e = .ok (.sl i) e := rfl
theorem rdS_ro (d : D) (i : Nat) (e : Ev) : rdS (.ro d) i e = .ok (.sl i) e := rfl
theorem rdS_st (d : D) (i : Nat) (e : Ev) : rdS (.st d) i e = .ok (.sl i) e := rfl
theorem vS_val (d : D) (i : Nat) (e : Ev) : vS (.val d) i e = .ok (.val d) e := rfl
theorem vS_own (d : D) (i : Nat) (e : Ev) : vS (.own d) i e = .ok (.val d) (e.set i (.val d)) := rfl
theorem mvS_val (d : D) (i : Nat) (e : Ev) : mvS (.val d) i e = .ok (.val d) e := rfl
theorem mvS_own (d : D) (i : Nat) (e : Ev) : mvS (.own d) i e = .ok (.own d) (e.set i .no) := rfl
theorem evE_v (i : Nat) (e : Ev) : evE Γ G (.v i) e = vS (e.at i) i e := rfl
theorem evE_mv (i : Nat) (e : Ev) : evE Γ G (.mv i) e = mvS (e.at i) i e := rfl
theorem evE_k (d : D) (e : Ev) : evE Γ G (.k d) e = .ok (.val d) e := rfl
theorem evE_g (x : Nat) (e : Ev) : evE Γ G (.g x) e = ofOut (G[x]?.map Out.val) e := by
  show (match G[x]? with | some d => Res.ok (Out.val d) e | none => Res.bad) = _
  cases G[x]? <;> rfl
theorem evE_pr (p : Pr) (es : List E) (e : Ev) : evE Γ G (.pr p es) e = (evO Γ G es e).bind fun os e1 => primR p (opds e1 p.need os) e1 := rfl
theorem primR_some (p : Pr) (ds : List D) (e : Ev) : primR p (some ds) e = ofOut (prim p ds) e := rfl
theorem evO_nil (e : Ev) : evO Γ G [] e = .ok [] e := rfl
theorem evO_cons' (x : E) (xs : List E) (e : Ev) : evO Γ G (x :: xs) e = (evP Γ G x e).bind fun o e1 => (evO Γ G xs e1).bind fun os e2 => .ok (o :: os) e2 := evO_cons Γ G x xs e
theorem evP_rd (i : Nat) (e : Ev) : evP Γ G (.rd i) e = rdOp i e := rfl
theorem evP_v (i : Nat) (e : Ev) : evP Γ G (.v i) e = (toV (evE Γ G (.v i) e)).bind fun d e1 => .ok (.dv d) e1 := rfl
theorem evP_mv (i : Nat) (e : Ev) : evP Γ G (.mv i) e = (toV (evE Γ G (.mv i) e)).bind fun d e1 => .ok (.dv d) e1 := rfl
theorem evP_k (d : D) (e : Ev) : evP Γ G (.k d) e = (toV (evE Γ G (.k d) e)).bind fun d e1 => .ok (.dv d) e1 := rfl
theorem evP_g (x : Nat) (e : Ev) : evP Γ G (.g x) e = (toV (evE Γ G (.g x) e)).bind fun d e1 => .ok (.dv d) e1 := rfl
theorem evP_pr (p : Pr) (es : List E) (e : Ev) : evP Γ G (.pr p es) e = (toV (evE Γ G (.pr p es) e)).bind fun d e1 => .ok (.dv d) e1 := rfl
theorem evP_chain (c1 c2 : Pr) (a b c : E) (e : Ev) : evP Γ G (.chain c1 c2 a b c) e = (toV (evE Γ G (.chain c1 c2 a b c) e)).bind fun d e1 => .ok (.dv d) e1 := rfl
theorem evP_and (a b : E) (e : Ev) : evP Γ G (.and a b) e = (toV (evE Γ G (.and a b) e)).bind fun d e1 => .ok (.dv d) e1 := rfl
theorem evP_or (a b : E) (e : Ev) : evP Γ G (.or a b) e = (toV (evE Γ G (.or a b) e)).bind fun d e1 => .ok (.dv d) e1 := rfl
theorem evP_not (a : E) (e : Ev) : evP Γ G (.not a) e = (toV (evE Γ G (.not a) e)).bind fun d e1 => .ok (.dv d) e1 := rfl
theorem evP_ite (c a b : E) (e : Ev) : evP Γ G (.ite c a b) e = (toV (evE Γ G (.ite c a b) e)).bind fun d e1 => .ok (.dv d) e1 := rfl
theorem evP_slc (a : E) (lo hi : Option E) (e : Ev) : evP Γ G (.slc a lo hi) e = (toV (evE Γ G (.slc a lo hi) e)).bind fun d e1 => .ok (.dv d) e1 := rfl
theorem evP_meth (m : Mt) (a : E) (es : List E) (e : Ev) : evP Γ G (.meth m a es) e = (toV (evE Γ G (.meth m a es) e)).bind fun d e1 => .ok (.dv d) e1 := rfl
theorem evP_call (f : Nat) (es : List E) (e : Ev) : evP Γ G (.call f es) e = (toV (evE Γ G (.call f es) e)).bind fun d e1 => .ok (.dv d) e1 := rfl
theorem evP_mu (m : Mu) (i : Nat) (es : List E) (e : Ev) : evP Γ G (.mu m i es) e = (toV (evE Γ G (.mu m i es) e)).bind fun d e1 => .ok (.dv d) e1 := rfl
theorem evP_comp (own : List Nat) (pat : Pat) (it : ItK) (src : List E) (cond : Option E) (elt : E) (e : Ev) : evP Γ G (.comp own pat it src cond elt) e = (toV (evE Γ G (.comp own pat it src cond elt) e)).bind fun d e1 => .ok (.dv d) e1 := rfl
theorem opds_nil (e : Ev) (n : Nat) : opds e n [] = some [] := rfl
theorem opds_cons (e : Ev) (n : Nat) (o : Opd) (r : List Opd) : opds e n (o :: r) = cons2 (o.get e n) (opds e n r) := by
  show (match o.get e n, opds e n r with | some d, some ds => some (d :: ds) | _, _ => none) = _
  cases o.get e n <;> cases opds e n r <;> rfl
theorem cons2_some (d : D) (ds : List D) : cons2 (some d) (some ds) = some (d :: ds) := rfl
theorem get_dv (d : D) (e : Ev) (n : Nat) : Opd.get e (.dv d) n = some d := rfl
theorem get_sl (i : Nat) (e : Ev) (n : Nat) : Opd.get e (.sl i) n = getS (e.at i) n := rfl
theorem getS_own0 (d : D) : getS (.own d) 0 = some d := rfl
theorem getS_own1 (d : D) : getS (.own d) 1 = some d := rfl
theorem getS_bor0 (d : D) : getS (.bor d) 0 = some d := rfl
theorem getS_bor1 (d : D) : getS (.bor d) 1 = some d := rfl
theorem getS_ro0 (d : D) : getS (.ro d) 0 = some d := rfl
theorem getS_ro1 (d : D) : getS (.ro d) 1 = some d := rfl
theorem getS_st0 (d : D) : getS (.st d) 0 = some d := rfl
theorem stays_nilR (e : Ev) : stays e [] = some [] := rfl
theorem stays_consR (e : Ev) (o : Opd) (r : List Opd) : stays e (o :: r) = cons2 (o.stay e) (stays e r) := by
  show (match o.stay e, stays e r with | some d, some ds => some (d :: ds) | _, _ => none) = _
  cases o.stay e <;> cases stays e r <;> rfl
theorem stay_dv (d : D) (e : Ev) : Opd.stay e (.dv d) = some d := rfl
theorem stay_sl (i : Nat) (e : Ev) : Opd.stay e (.sl i) = stS (e.at i) := rfl
theorem stS_ro (d : D) : stS (.ro d) = some d := rfl
theorem stS_st (d : D) : stS (.st d) = some d := rfl
theorem evE_chain (c1 c2 : Pr) (a b c : E) (e : Ev) : evE Γ G (.chain c1 c2 a b c) e = (toV (evE Γ G a e)).bind fun x e1 => (toV (evE Γ G b e1)).bind fun y e2 => chainR (prim c1 [x, y]) e2 ((toV (evE Γ G c e2)).bind fun z e3 => primR c2 (some [y, z]) e3) := rfl
theorem chainR_bl (k : Bool) (e : Ev) (r : Res Out) : chainR (some (.val (.bl k))) e r = cond k r (.ok (.val (.bl false)) e) := by cases k <;> rfl
theorem evE_and (a b : E) (e : Ev) : evE Γ G (.and a b) e = (toB (evE Γ G a e)).bind fun x e1 => cond x (evE Γ G b e1) (.ok (.val (.bl false)) e1) := rfl
theorem evE_or (a b : E) (e : Ev) : evE Γ G (.or a b) e = (toB (evE Γ G a e)).bind fun x e1 => cond x (.ok (.val (.bl true)) e1) (evE Γ G b e1) := rfl
theorem evE_not (a : E) (e : Ev) : evE Γ G (.not a) e = (toB (evE Γ G a e)).bind fun x e1 => .ok (.val (.bl (!x))) e1 := rfl
theorem evE_ite (c a b : E) (e : Ev) : evE Γ G (.ite c a b) e = (toB (evE Γ G c e)).bind fun k e1 => cond k (evE Γ G a e1) (evE Γ G b e1) := rfl
theorem evE_truth_rd (i : Nat) (e : Ev) : evE Γ G (.truth (.rd i)) e = (rdOp i e).bind fun o e1 => truO (o.get e1 0) e1 := rfl
theorem evE_truth_v (i : Nat) (e : Ev) : evE Γ G (.truth (.v i)) e = (toV (evE Γ G (.v i) e)).bind fun d e1 => truB (truD d) e1 := rfl
theorem evE_truth_mv (i : Nat) (e : Ev) : evE Γ G (.truth (.mv i)) e = (toV (evE Γ G (.mv i) e)).bind fun d e1 => truB (truD d) e1 := rfl
theorem evE_truth_k (d : D) (e : Ev) : evE Γ G (.truth (.k d)) e = (toV (evE Γ G (.k d) e)).bind fun d e1 => truB (truD d) e1 := rfl
theorem evE_truth_g (x : Nat) (e : Ev) : evE Γ G (.truth (.g x)) e = (toV (evE Γ G (.g x) e)).bind fun d e1 => truB (truD d) e1 := rfl
theorem evE_truth_pr (p : Pr) (es : List E) (e : Ev) : evE Γ G (.truth (.pr p es)) e = (toV (evE Γ G (.pr p es) e)).bind fun d e1 => truB (truD d) e1 := rfl
theorem evE_truth_chain (c1 c2 : Pr) (a b c : E) (e : Ev) : evE Γ G (.truth (.chain c1 c2 a b c)) e = (toV (evE Γ G (.chain c1 c2 a b c) e)).bind fun d e1 => truB (truD d) e1 := rfl
theorem evE_truth_and (a b : E) (e : Ev) : evE Γ G (.truth (.and a b)) e = (toV (evE Γ G (.and a b) e)).bind fun d e1 => truB (truD d) e1 := rfl
theorem evE_truth_or (a b : E) (e : Ev) : evE Γ G (.truth (.or a b)) e = (toV (evE Γ G (.or a b) e)).bind fun d e1 => truB (truD d) e1 := rfl
theorem evE_truth_not (a : E) (e : Ev) : evE Γ G (.truth (.not a)) e = (toV (evE Γ G (.not a) e)).bind fun d e1 => truB (truD d) e1 := rfl
theorem evE_truth_ite (c a b : E) (e : Ev) : evE Γ G (.truth (.ite c a b)) e = (toV (evE Γ G (.ite c a b) e)).bind fun d e1 => truB (truD d) e1 := rfl
theorem evE_truth_slc (a : E) (lo hi : Option E) (e : Ev) : evE Γ G (.truth (.slc a lo hi)) e = (toV (evE Γ G (.slc a lo hi) e)).bind fun d e1 => truB (truD d) e1 := rfl
theorem evE_truth_meth (m : Mt) (a : E) (es : List E) (e : Ev) : evE Γ G (.truth (.meth m a es)) e = (toV (evE Γ G (.meth m a es) e)).bind fun d e1 => truB (truD d) e1 := rfl
theorem evE_truth_call (f : Nat) (es : List E) (e : Ev) : evE Γ G (.truth (.call f es)) e = (toV (evE Γ G (.call f es) e)).bind fun d e1 => truB (truD d) e1 := rfl
theorem evE_truth_mu (m : Mu) (i : Nat) (es : List E) (e : Ev) : evE Γ G (.truth (.mu m i es)) e = (toV (evE Γ G (.mu m i es) e)).bind fun d e1 => truB (truD d) e1 := rfl
theorem evE_truth_comp (own : List Nat) (pat : Pat) (it : ItK) (src : List E) (cond : Option E) (elt : E) (e : Ev) : evE Γ G (.truth (.comp own pat it src cond elt)) e = (toV (evE Γ G (.comp own pat it src cond elt) e)).bind fun d e1 => truB (truD d) e1 := rfl
theorem truO_some (d : D) (e : Ev) : truO (some d) e = truB (truD d) e := rfl
theorem truB_some (k : Bool) (e : Ev) : truB (some k) e = .ok (.val (.bl k)) e := rfl
theorem truD_non : truD .non = some false := rfl
theorem truD_bl (b : Bool) : truD (.bl b) = some b := rfl
theorem truD_int (i : Int) : truD (.int i) = some (i != 0) := rfl
theorem truD_str (s : List Nat) : truD (.str s) = some (!s.isEmpty) := rfl
theorem truD_lst (s : List D) : truD (.lst s) = some (!s.isEmpty) := rfl
theorem truD_tup (s : List D) : truD (.tup s) = some (!s.isEmpty) := rfl
theorem evE_slc' (a : E) (lo hi : Option E) (e : Ev) : evE Γ G (.slc a lo hi) e = (evP Γ G a e).bind fun o e1 => (evB Γ G lo e1).bind fun l e2 => (evB Γ G hi e2).bind fun h e3 => slcR (o.get e3 0) l h e3 := evE_slc Γ G a lo hi e
theorem evB_none (e : Ev) : evB Γ G none e = .ok none e := rfl
theorem evB_some (x : E) (e : Ev) : evB Γ G (some x) e = toI (evE Γ G x e) := rfl
theorem slcR_some (d : D) (l h : Option Int) (e : Ev) : slcR (some d) l h e = ofOut (slcF d l h) e := by
  show (match slcF d l h with | none => Res.bad | some o => .ok o e) = _
  cases slcF d l h <;> rfl
theorem slcF_lst (xs : List D) (l h : Option Int) : slcF (.lst xs) l h = some (.own (.lst (cut xs l h))) := rfl
theorem slcF_str (xs : List Nat) (l h : Option Int) : slcF (.str xs) l h = some (.val (.str (cut xs l h))) := rfl
theorem evE_meth' (m : Mt) (a : E) (es : List E) (e : Ev) : evE Γ G (.meth m a es) e = (evP Γ G a e).bind fun o e1 => cond (recvTy m (o.get e1 0)) ((evO Γ G es e1).bind fun os e2 => methR m (o.get e2 0) (opds e2 0 os) e2) .bad := by
  rw [evE_meth]
  congr 1
theorem methR_some (m : Mt) (d : D) (ds : List D) (e : Ev) : methR m (some d) (some ds) e = ofOut (methF m d ds) e := rfl
theorem recv_index (xs : List D) : recvTy .index (some (.lst xs)) = true := rfl
theorem recv_split (xs : List Nat) : recvTy .split (some (.str xs)) = true := rfl
theorem recv_join (xs : List Nat) : recvTy .join (some (.str xs)) = true := rfl
theorem recv_scount (xs : List Nat) : recvTy .scount (some (.str xs)) = true := rfl
theorem recv_sfind (xs : List Nat) : recvTy .sfind (some (.str xs)) = true := rfl
theorem recv_sindex (xs : List Nat) : recvTy .sindex (some (.str xs)) = true := rfl
theorem recv_lcount (xs : List D) : recvTy .lcount (some (.lst xs)) = true := rfl
theorem methF_scount (a : List Nat) (c : Nat) : methF .scount (.str a) [.str [c]] = some (.val (.int ((a.count c : Nat) : Int))) := rfl
theorem methF_sfind (a : List Nat) (c : Nat) : methF .sfind (.str a) [.str [c]] = some (.val (.int (findF a c))) := rfl
theorem methF_sindex (a : List Nat) (c : Nat) : methF .sindex (.str a) [.str [c]] = (match a.findIdx? (· == c) with | some j => some (.val (.int (j : Int))) | none => none) := rfl
theorem methF_lcount (ys : List D) (x : D) : methF .lcount (.lst ys) [x] = if flat x && ys.all flat then some (.val (.int ((ys.countP (fun y => deq y x) : Nat) : Int))) else none := rfl
theorem prim_inR (i n : Int) : prim .inR [.int i, .int n] = some (.val (.bl (decide (0 ≤ i) && decide (i < n)))) := rfl
theorem methF_index (ys : List D) (x : D) : methF .index (.lst ys) [x] = if flat x && ys.all flat then (match ys.findIdx? (fun y => deq y x) with | some j => some (.val (.int j)) | none => none) else none := rfl
theorem methF_split (a : List Nat) (c : Nat) : methF .split (.str a) [.str [c]] = if a.length + 2 ≤ SZ then some (.own (.lst ((splitL c a).map .str))) else none := rfl
theorem methF_join (a : List Nat) (ys : List (List Nat)) : methF .join (.str a) [.lst (ys.map .str)] = if (ys.map (·.length)).sum + ys.length * a.length ≤ SZ then some (.val (.str (joinL a ys))) else none := by
  show (match strsD (ys.map .str) with | some ys => if (ys.map List.length).sum + ys.length * a.length ≤ SZ then some (Out.val (.str (joinL a ys))) else none | none => none) = _
  rw [strsD_map]
theorem evE_call (f : Nat) (es : List E) (e : Ev) : evE Γ G (.call f es) e = (evO Γ G es e).bind fun os e1 => callR Γ[f]? os e1 := rfl
theorem evE_mu (m : Mu) (i : Nat) (es : List E) (e : Ev) : evE Γ G (.mu m i es) e = muS (gSl (e.at i)) ((evO Γ G es e).bind fun os e1 => muR m i (opds e1 2 os) e1) := by
  show (match getOwn e i with | some (.lst _) => (evO Γ G es e).bind fun os e1 => muR m i (opds e1 2 os) e1 | _ => .bad) = _
  unfold getOwn gSl muS
  cases e.at i <;> rfl
theorem gSl_own (d : D) : gSl (.own d) = some d := rfl
theorem gSl_bor (d : D) : gSl (.bor d) = some d := rfl
theorem muS_lst (xs : List D) (k : Res Out) : muS (some (.lst xs)) k = k := rfl
theorem muR_eq (m : Mu) (i : Nat) (ds : List D) (e : Ev) : muR m i (some ds) e = muV (gSl (e.at i)) m i ds e := by
  unfold muR muV getOwn gSl
  cases e.at i <;> first | rfl | (rename_i d; cases d <;> rfl)
theorem muV_lst (m : Mu) (i : Nat) (xs ds : List D) (e : Ev) : muV (some (.lst xs)) m i ds e = muT (muL m xs ds) i e := rfl
theorem muT_some (ys : List D) (r : D) (i : Nat) (e : Ev) : muT (some (ys, r)) i e = okE (sSl (e.at i) e i (.lst ys)) r := by
  unfold muT okE setOwn sSl
  cases e.at i <;> rfl
theorem okE_some (e : Ev) (r : D) : okE (some e) r = .ok (.val r) e := rfl
theorem sSl_own (x d : D) (e : Ev) (i : Nat) : sSl (.own x) e i d = some (e.set i (.own d)) := rfl
theorem sSl_bor (x d : D) (e : Ev) (i : Nat) : sSl (.bor x) e i d = some (e.set i (.bor d)) := rfl
theorem muL_append (xs : List D) (y : D) : muL .append xs [y] = if xs.length < SZ then some (xs ++ [y], .non) else none := rfl
theorem muL_extend (xs ys : List D) : muL .extend xs [.lst ys] = if xs.length + ys.length ≤ SZ then some (xs ++ ys, .non) else none := rfl
theorem muL_pop (xs : List D) (y : D) : muL .pop (xs ++ [y]) [] = some (xs, y) := by
  simp [muL]
theorem muL_reverse (xs : List D) : muL .reverse xs [] = some (xs.reverse, .non) := rfl
theorem evE_comp (own : List Nat) (pat : Pat) (it : ItK) (src : List E) (cond : Option E) (elt : E) (e : Ev) : evE Γ G (.comp own pat it src cond elt) e = (evO Γ G src e).bind fun os e1 => compR own it (compTurn own pat (evC Γ G cond) (evE Γ G elt)) (stays e1 os) e1 := rfl
theorem evC_none (e : Ev) : evC Γ G none e = .ok true e := rfl
theorem evC_some (c : E) (e : Ev) : evC Γ G (some c) e = toB (evE Γ G c e) := rfl
theorem evS_set (p : Pat) (x : E) (e : Ev) : evS Γ G (.set p x) e = SR.of (evE Γ G x e) fun o e1 => SR.ofO (putOut p o e1) := rfl
theorem evS_par (is : List Nat) (es : List E) (e : Ev) : evS Γ G (.par is es) e = SR.of (evO Γ G es e) fun os e1 => valK (valsOf os) fun ds => SR.ofO (parPut is ds e1) := by
  show SR.of (evO Γ G es e) (fun os e1 => match valsOf os with | some ds => SR.ofO (parPut is ds e1) | none => .bad) = _
  congr 1
theorem valK_some (ds : List D) (k : List D → SR) : valK (some ds) k = k ds := rfl
theorem valsOf_nil : valsOf [] = some [] := rfl
theorem valsOf_cons (d : D) (r : List Opd) : valsOf (.dv d :: r) = (valsOf r).map (d :: ·) := rfl
theorem parPut_nil (e : Ev) : parPut [] [] e = some e := rfl
theorem parPut_cons (i : Nat) (is : List Nat) (d : D) (ds : List D) (e : Ev) : parPut (i :: is) (d :: ds) e = (put (.nm i) d e).bind (parPut is ds) := by
  show (match put (.nm i) d e with | some e' => parPut is ds e' | none => none) = _
  cases put (.nm i) d e <;> rfl
theorem evS_aug (i : Nat) (p : Pr) (x : E) (e : Ev) : evS Γ G (.aug i p x) e = augS (e.at i) (toV (evE Γ G x e)) i fun a b e1 => augT (e1.at i) (prim p [a, b]) i e1 := by
  show (match e.at i with | .val a => SR.of (toV (evE Γ G x e)) (fun b e1 => (match e1.at i, prim p [a, b] with | .val _, some (.val d) => SR.ofO (put (.nm i) d e1) | _, _ => .bad)) | _ => .bad) = _
  unfold augS
  cases e.at i <;> rfl
theorem augS_val (a : D) (r : Res D) (i : Nat) (k : D → D → Ev → SR) : augS (.val a) r i k = SR.of r (k a) := rfl
theorem augT_val (x d : D) (i : Nat) (e : Ev) : augT (.val x) (some (.val d)) i e = SR.ofO (put (.nm i) d e) := rfl
theorem evS_ex (x : E) (e : Ev) : evS Γ G (.ex x) e = SR.of (evE Γ G x e) fun _ e1 => .nx e1 := rfl
theorem evS_ret (x : E) (e : Ev) : evS Γ G (.ret x) e = SR.of (evE Γ G x e) fun o e1 => .ret o e1 := rfl
theorem evS_retN (e : Ev) : evS Γ G .retN e = .ret (.val .non) e := rfl
theorem evS_if (c : E) (a b : List S) (e : Ev) : evS Γ G (.if_ c a b) e = SR.of (toB (evE Γ G c e)) fun k e1 => cond k (evSs Γ G a e1) (evSs Γ G b e1) := rfl
theorem evS_for (pat : Pat) (it : ItK) (src : List E) (body : List S) (e : Ev) : evS Γ G (.for_ pat it src body) e = SR.of (evO Γ G src e) fun os e1 => forR it (turnF Γ G pat body) (stays e1 os) e1 := rfl
theorem evS_whl (fuel : Ev → Nat) (c : E) (body : List S) (e : Ev) : evS Γ G (.whl fuel c body) e = whlRun (fun e => toB (evE Γ G c e)) (evSs Γ G body) (fuel e) e := rfl
theorem evS_brk (e : Ev) : evS Γ G .brk e = .brk e := rfl
theorem evS_cnt (e : Ev) : evS Γ G .cnt e = .cnt e := rfl
theorem evS_pass (e : Ev) : evS Γ G .pass e = .nx e := rfl
theorem evS_rai (c : Nat) (e : Ev) : evS Γ G (.rai c) e = .exc ⟨c, []⟩ e := rfl
theorem evSs_nil (e : Ev) : evSs Γ G [] e = .nx e := rfl
theorem evSs_cons (s : S) (r : List S) (e : Ev) : evSs Γ G (s :: r) e = (evS Γ G s e).then (evSs Γ G r) := rfl
theorem forR_seq (turn : D → Ev → SR) (xs : List D) (e : Ev) : forR .seq turn (some [.lst xs]) e = forRun turn xs e := rfl
theorem forR_tup (turn : D → Ev → SR) (xs : List D) (e : Ev) : forR .seq turn (some [.tup xs]) e = forRun turn xs e := rfl
theorem forR_str (turn : D → Ev → SR) (xs : List Nat) (e : Ev) : forR .seq turn (some [.str xs]) e = forRun turn (xs.map fun c => .str [c]) e := rfl
theorem forR_rng1 (turn : D → Ev → SR) (n : Int) (e : Ev) (h : small62 n = true) : forR .rng1 turn (some [.int n]) e = forRun turn ((List.range n.toNat).map fun (k : Nat) => .int (k : Int)) e := by
  show (match (if small62 n then some (rangeL 0 1 n.toNat) else none) with
    | none => SR.bad
    | some xs => forRun turn xs e) = _
  rw [if_pos h, range0]
theorem prim1_add (a : Int) (b : Int) : prim .add [.int a, .int b] = some (.val (.int (a + b))) := by rfl
theorem prim2_add (a : List Nat) (b : List Nat) : prim .add [.str a, .str b] = if a.length + b.length ≤ SZ then some (.val (.str (a ++ b))) else none := by rfl
theorem prim3_add (a : List D) (b : List D) : prim .add [.lst a, .lst b] = if a.length + b.length ≤ SZ then some (.own (.lst (a ++ b))) else none := by rfl
theorem prim4_sub (a : Int) (b : Int) : prim .sub [.int a, .int b] = some (.val (.int (a - b))) := by rfl
theorem prim5_mul (a : Int) (b : Int) : prim .mul [.int a, .int b] = if mulOk a b then some (.val (.int (a * b))) else none := by rfl
theorem prim6_mul (a : List D) (k : Int) : prim .mul [.lst a, .int k] = if decide (-(2 ^ 63) ≤ k) && decide (k < 2 ^ 63) && decide (a.length * k.toNat ≤ SZ) then some (.own (.lst (List.replicate k.toNat a).flatten)) else none := by rfl
theorem prim7_mul (a : List Nat) (k : Int) : prim .mul [.str a, .int k] = if decide (-(2 ^ 63) ≤ k) && decide (k < 2 ^ 63) && decide (a.length * k.toNat ≤ SZ) then some (.val (.str (List.replicate k.toNat a).flatten)) else none := by rfl
theorem prim8_fdiv (a : Int) (b : Int) : prim .fdiv [.int a, .int b] = if divOk b then some (.val (.int (a.fdiv b))) else none := by rfl
theorem prim9_mod (a : Int) (b : Int) : prim .mod [.int a, .int b] = if decide (b ≠ 0) then some (.val (.int (a.fmod b))) else none := by rfl
theorem prim10_pow (a : Int) (b : Int) : prim .pow [.int a, .int b] = if powOk a b then some (.val (.int (a ^ b.toNat))) else none := by rfl
theorem prim11_neg (a : Int) : prim .neg [.int a] = some (.val (.int (-a))) := by rfl
theorem prim12_eq (a : D) (b : D) : prim .eq [a, b] = if plain 60 a && plain 60 b then some (.val (.bl (deq a b))) else none := by rfl
theorem prim13_ne (a : D) (b : D) : prim .ne [a, b] = if plain 60 a && plain 60 b then some (.val (.bl (!deq a b))) else none := by rfl
theorem prim14_lt (a : Int) (b : Int) : prim .lt [.int a, .int b] = some (.val (.bl (decide (a < b)))) := by rfl
theorem prim15_le (a : Int) (b : Int) : prim .le [.int a, .int b] = some (.val (.bl (decide (a ≤ b)))) := by rfl
theorem prim16_gt (a : Int) (b : Int) : prim .gt [.int a, .int b] = some (.val (.bl (decide (b < a)))) := by rfl
theorem prim17_ge (a : Int) (b : Int) : prim .ge [.int a, .int b] = some (.val (.bl (decide (b ≤ a)))) := by rfl
theorem prim18_lt (a : List Nat) (b : List Nat) : prim .lt [.str a, .str b] = some (.val (.bl (decide (a < b)))) := by rfl
theorem prim19_le (a : List Nat) (b : List Nat) : prim .le [.str a, .str b] = some (.val (.bl (!decide (b < a)))) := by rfl
theorem prim20_gt (a : List Nat) (b : List Nat) : prim .gt [.str a, .str b] = some (.val (.bl (decide (b < a)))) := by rfl
theorem prim21_ge (a : List Nat) (b : List Nat) : prim .ge [.str a, .str b] = some (.val (.bl (!decide (a < b)))) := by rfl
theorem prim22_isin (z : List Nat) (c : Nat) : prim .isin [.str [c], .str z] = some (.val (.bl (decide (c ∈ z)))) := by rfl
theorem prim23_notin (z : List Nat) (c : Nat) : prim .notin [.str [c], .str z] = some (.val (.bl (!decide (c ∈ z)))) := by rfl
theorem prim24_isin (ys : List D) (x : D) : prim .isin [x, .lst ys] = if flat x && ys.all flat then some (.val (.bl (ys.any fun y => deq y x))) else none := by
  cases x <;> first | rfl | (rename_i s; match s with | [] => rfl | [_] => rfl | _ :: _ :: _ => rfl)
theorem prim25_isin (ys : List D) (x : D) : prim .isin [x, .tup ys] = if flat x && ys.all flat then some (.val (.bl (ys.any fun y => deq y x))) else none := by
  cases x <;> first | rfl | (rename_i s; match s with | [] => rfl | [_] => rfl | _ :: _ :: _ => rfl)
theorem prim26_notin (ys : List D) (x : D) : prim .notin [x, .lst ys] = if flat x && ys.all flat then some (.val (.bl (!ys.any fun y => deq y x))) else none := by
  cases x <;> first | rfl | (rename_i s; match s with | [] => rfl | [_] => rfl | _ :: _ :: _ => rfl)
theorem prim27_notin (ys : List D) (x : D) : prim .notin [x, .tup ys] = if flat x && ys.all flat then some (.val (.bl (!ys.any fun y => deq y x))) else none := by
  cases x <;> first | rfl | (rename_i s; match s with | [] => rfl | [_] => rfl | _ :: _ :: _ => rfl)
theorem prim28_isN (x : D) : prim .isN [x] = some (.val (.bl (isNon x))) := by rfl
theorem prim29_notN (x : D) : prim .notN [x] = some (.val (.bl (!isNon x))) := by rfl
theorem prim30_isB (a : Bool) (b : Bool) : prim .isB [.bl a, .bl b] = some (.val (.bl (decide (a = b)))) := by rfl
theorem prim31_notB (a : Bool) (b : Bool) : prim .notB [.bl a, .bl b] = some (.val (.bl (!decide (a = b)))) := by rfl
theorem prim32_ix (xs : List D) (i : Int) : prim .ix [.lst xs, .int i] = (atI xs i).map .val := by rfl
theorem prim33_ix (xs : List D) (i : Int) : prim .ix [.tup xs, .int i] = (atI xs i).map .val := by rfl
theorem prim34_ix (s : List Nat) (i : Int) : prim .ix [.str s, .int i] = (atI s i).map fun c => .val (.str [c]) := by rfl
theorem prim35_tup (xs : List D) : prim .tup xs = if xs.length ≤ SZ then some (.val (.tup xs)) else none := by rfl
theorem prim36_lst (xs : List D) : prim .lst xs = if xs.length ≤ SZ then some (.own (.lst xs)) else none := by rfl
theorem prim37_len (xs : List D) : prim .len [.lst xs] = some (.val (.int xs.length)) := by rfl
theorem prim38_len (xs : List D) : prim .len [.tup xs] = some (.val (.int xs.length)) := by rfl
theorem prim39_len (s : List Nat) : prim .len [.str s] = some (.val (.int s.length)) := by rfl
theorem prim40_abs (a : Int) : prim .abs [.int a] = some (.val (.int (if a < 0 then -a else a))) := by rfl
theorem prim41_int (a : Int) : prim .int [.int a] = some (.val (.int a)) := by rfl
theorem prim42_int (b : Bool) : prim .int [.bl b] = some (.val (.int (if b then 1 else 0))) := by rfl
theorem prim43_int (s : List Nat) : prim .int [.str s] = if digsOk s then some (.val (.int (digVal s))) else none := by rfl
theorem prim44_ord (c : Nat) : prim .ord [.str [c]] = some (.val (.int c)) := by rfl
theorem prim45_str (a : Int) : prim .str [.int a] = if decide (a.natAbs.log2 < 1920) then some (.val (.str (strI a))) else none := by rfl
theorem prim46_repr (d : D) : prim .repr [d] = if shows d && plain 60 d && decide (rsz d ≤ SZ) then some (.val (.str (reprD d))) else none := by rfl
theorem prim47_list (xs : List D) : prim .list [.lst xs] = some (.own (.lst xs)) := by rfl
theorem prim48_list (xs : List D) : prim .list [.tup xs] = some (.own (.lst xs)) := by rfl
theorem prim49_sum (ns : List Int) : prim .sum [.lst (ns.map .int)] = some (.val (.int ns.sum)) := by
  show Option.map _ _ = _
  rw [intsD_map]
  rfl
theorem prim50_any (bs : List Bool) : prim .any [.lst (bs.map .bl)] = some (.val (.bl (bs.any id))) := by
  show Option.map _ _ = _
  rw [blsD_map]
  rfl
theorem prim51_all (bs : List Bool) : prim .all [.lst (bs.map .bl)] = some (.val (.bl (bs.all id))) := by
  show Option.map _ _ = _
  rw [blsD_map]
  rfl
end
/-! ### comprehensions -/
theorem wipe1 {e : Ev} {i : Nat} (h : (e.at i).free = true) : wipeE e [i] = some (e.set i .no) := by
  simp only [wipeE]
  cases q : e.at i <;> first
    | (rw [q] at h; cases h; done)
    | rfl
theorem at_set_free {e : Ev} {i : Nat} {s : Sl} (h : s.free = true) (he : (e.at i).free = true) : (Ev.at (e.set i s) i).free = true := by
  by_cases hi : i < e.length
  · have : Ev.at (e.set i s) i = s := by simp [Ev.at, hi]
    rw [this]; exact h
  · rw [List.set_eq_of_length_le (by omega)]; exact he
/-- a turn with one own name that changes nothing else -/
theorem turn1 {i : Nat} {cnd : Ev → Res Bool} {elt : Ev → Res Out} {x y : D} {e : Ev} {s : Sl} {o : Out} (hs : s.free = true) (hf : (e.at i).free = true) (hi : i < e.length) (hc : cnd (e.set i (.val x)) = .ok true (e.set i (.val x))) (h : elt (e.set i (.val x)) = .ok o (e.set i (.val x))) (hy : o.d = y) :
    compTurn [i] (.nm i) cnd elt x (e.set i s) = .ok (some y) (e.set i (.val x)) := by
  unfold compTurn
  rw [wipe1 (at_set_free hs hf)]
  simp only [List.set_set]
  rw [put_nm' , if_pos ⟨at_set_free rfl hf, by simpa using hi⟩]
  simp only [List.set_set, hc, h, hy]
theorem turn0 {i : Nat} {cnd : Ev → Res Bool} {elt : Ev → Res Out} {x : D} {e : Ev} {s : Sl} (hs : s.free = true) (hf : (e.at i).free = true) (hi : i < e.length) (hc : cnd (e.set i (.val x)) = .ok false (e.set i (.val x))) :
    compTurn [i] (.nm i) cnd elt x (e.set i s) = .ok none (e.set i (.val x)) := by
  unfold compTurn
  rw [wipe1 (at_set_free hs hf)]
  simp only [List.set_set]
  rw [put_nm' , if_pos ⟨at_set_free rfl hf, by simpa using hi⟩]
  simp only [List.set_set, hc]
theorem compRun_in {α σ : Type} {body : D → Ev → Res (Option D)} (f : α → D) (Inv : σ → Ev → Prop) (step : σ → α → Option D × σ) : ∀ (xs : List α), (∀ s x e, x ∈ xs → Inv s e → ∃ e', body (f x) e = .ok (step s x).1 e' ∧ Inv (step s x).2 e') →
    ∀ s e, Inv s e → xs.length ≤ SZ → ∃ e', compRun body (xs.map f) [] e = .ok (outs step s xs).1 e' ∧ Inv (outs step s xs).2 e' := fun xs h s e hI hl => by
  have := compRun_ok f Inv step xs h s e [] hI (by simpa using hl)
  simpa using this
/-- [elt for i in ..], nothing else changes -/
theorem comp1 {α : Type} {i : Nat} {it : ItK} {elt : Ev → Res Out} {ds : List D} {f g : α → D} {xs : List α} {e : Ev} (hit : items it ds = some (xs.map f)) (hl : xs.length ≤ SZ) (hf : (e.at i).free = true) (hi : i < e.length)
    (h : ∀ x ∈ xs, ∃ o, elt (e.set i (.val (f x))) = .ok o (e.set i (.val (f x))) ∧ o.d = g x) {Γ : List Fn} {G : List D} :
    compR [i] it (compTurn [i] (.nm i) (evC Γ G none) elt) (some ds) e = .ok (.own (.lst (xs.map g))) (e.set i .no) := by
  unfold compR
  simp only [hit, wipe1 hf]
  obtain ⟨e', h1, s, hs, h2⟩ := compRun_in (body := compTurn [i] (.nm i) (evC Γ G none) elt) f (fun (_ : Unit) e' => ∃ s, Sl.free s = true ∧ e' = e.set i s) (fun u x => (some (g x), u)) xs (fun u x e' hx ⟨s, hs, he⟩ => by
    subst he
    obtain ⟨o, h1, h2⟩ := h x hx
    exact ⟨_, turn1 hs hf hi rfl h1 h2, _, rfl, rfl⟩) () (e.set i .no) ⟨.no, rfl, rfl⟩ hl
  subst h2
  rw [outs_map] at h1
  simp only [h1, wipe1 (at_set_free hs hf), List.set_set]
/-- [elt for i in .. if cond] -/
theorem outs_filter {α σ : Type} (g : α → D) (p : α → Bool) (s : σ) : ∀ xs : List α, outs (fun s x => (if p x then some (g x) else none, s)) s xs = ((xs.filter p).map g, s)
  | [] => rfl
  | x :: xs => by
    have ih := outs_filter g p s xs
    cases h : p x <;> simp [outs, h, ih]
theorem comp1c {α : Type} {i : Nat} {it : ItK} {cnd : Ev → Res Bool} {elt : Ev → Res Out} {ds : List D} {f g : α → D} {p : α → Bool} {xs : List α} {e : Ev} (hit : items it ds = some (xs.map f)) (hl : xs.length ≤ SZ) (hf : (e.at i).free = true) (hi : i < e.length)
    (hc : ∀ x ∈ xs, cnd (e.set i (.val (f x))) = .ok (p x) (e.set i (.val (f x)))) (h : ∀ x ∈ xs, p x = true → ∃ o, elt (e.set i (.val (f x))) = .ok o (e.set i (.val (f x))) ∧ o.d = g x) :
    compR [i] it (compTurn [i] (.nm i) cnd elt) (some ds) e = .ok (.own (.lst ((xs.filter p).map g))) (e.set i .no) := by
  unfold compR
  simp only [hit, wipe1 hf]
  obtain ⟨e', h1, s, hs, h2⟩ := compRun_in (body := compTurn [i] (.nm i) cnd elt) f (fun (_ : Unit) e' => ∃ s, Sl.free s = true ∧ e' = e.set i s) (fun u x => (if p x then some (g x) else none, u)) xs (fun u x e' hx ⟨s, hs, he⟩ => by
    subst he
    have hc' := hc x hx
    cases hp : p x with
    | true =>
      rw [hp] at hc'
      obtain ⟨o, h1, h2⟩ := h x hx hp
      exact ⟨_, turn1 hs hf hi hc' h1 h2, _, rfl, rfl⟩
    | false =>
      rw [hp] at hc'
      exact ⟨_, turn0 hs hf hi hc', _, rfl, rfl⟩) () (e.set i .no) ⟨.no, rfl, rfl⟩ hl
  subst h2
  rw [outs_filter] at h1
  simp only [h1, wipe1 (at_set_free hs hf), List.set_set]
/-- a comprehension whose turns change the state -/
theorem comp_st {α σ : Type} {own : List Nat} {it : ItK} {turn : D → Ev → Res (Option D)} {ds : List D} (f : α → D) (Inv : σ → Ev → Prop) (step : σ → α → Option D × σ) {xs : List α} {e e1 : Ev} {s : σ} (hit : items it ds = some (xs.map f)) (hl : xs.length ≤ SZ) (hw : wipeE e own = some e1) (hI : Inv s e1)
    (h : ∀ s x e, x ∈ xs → Inv s e → ∃ e', turn (f x) e = .ok (step s x).1 e' ∧ Inv (step s x).2 e') :
    ∃ e', Inv (outs step s xs).2 e' ∧ ∀ e4, wipeE e' own = some e4 → compR own it turn (some ds) e = .ok (.own (.lst (outs step s xs).1)) e4 := by
  obtain ⟨e', h1, h2⟩ := compRun_in f Inv step xs h s e1 hI hl
  refine ⟨e', h2, fun e4 h4 => ?_⟩
  unfold compR
  simp only [hit, hw, h1, h4]
theorem items_str (s : List Nat) : items .seq [.str s] = some (s.map fun c => .str [c]) := rfl
theorem items_lst (s : List D) : items .seq [.lst s] = some s := rfl
theorem items_tup (s : List D) : items .seq [.tup s] = some s := rfl
theorem items_rng1 {n : Int} (h : small62 n = true) : items .rng1 [.int n] = some ((List.range n.toNat).map fun (k : Nat) => D.int (k : Int)) := by
  show (if small62 n then some (rangeL 0 1 n.toNat) else none) = _
  rw [if_pos h, range0]
end Mini

set_option Elab.async false
set_option linter.all false
/-! Mini: equations of tries, wipes, picked calls; laws of loops whose states are told exactly. -/
namespace Mini
theorem free_err (x : Ex) : Sl.free (.err x) = true := rfl
theorem rdS_err (x : Ex) (i : Nat) (e : Ev) : rdS (.err x) i e = .ok (.sl i) e := rfl
def isiS (s : Sl) (ns : List Nat) (e : Ev) : Res Out := match s with
  | Sl.err x => Res.ok (Out.val (D.bl (ns.contains x.cls))) e
  | _ => Res.bad
theorem isiS_err (x : Ex) (ns : List Nat) (e : Ev) : isiS (Sl.err x) ns e = Res.ok (Out.val (.bl (ns.contains x.cls))) e := rfl
def pickK (o : Option Nat) (k : Nat → Res Out) : Res Out := match o with
  | some f => k f
  | none => .bad
theorem pickK_some (f : Nat) (k : Nat → Res Out) : pickK (some f) k = k f := rfl
def tryK (r : SR) (su : List (List S)) (k : Ex → Ev → SR) : SR := match r with
  | .exc x e => k x e
  | r => r
theorem tryK_exc (x : Ex) (e : Ev) (su : List (List S)) (k : Ex → Ev → SR) : tryK (.exc x e) su k = k x e := rfl
theorem tryK_nx (e : Ev) (su : List (List S)) (k : Ex → Ev → SR) : tryK (.nx e) su k = .nx e := rfl
theorem tryK_ret (o : Out) (e : Ev) (su : List (List S)) (k : Ex → Ev → SR) : tryK (.ret o e) su k = .ret o e := rfl
theorem tryK_brk (e : Ev) (su : List (List S)) (k : Ex → Ev → SR) : tryK (.brk e) su k = .brk e := rfl
theorem tryK_cnt (e : Ev) (su : List (List S)) (k : Ex → Ev → SR) : tryK (.cnt e) su k = .cnt e := rfl
def suK (o : Option Ev) (i : Option Nat) (k : Ev → SR) : SR := match o with
  | some e => suiteEnd i (k e)
  | none => .bad
theorem suK_some (e : Ev) (i : Option Nat) (k : Ev → SR) : suK (some e) i k = suiteEnd i (k e) := rfl
theorem suiteEnd_ret (i : Option Nat) (o : Out) (e : Ev) : suiteEnd i (.ret o e) = SR.then (SR.ofO (dropE i e)) (.ret o) := by
  simp only [suiteEnd]; cases dropE i e <;> rfl
theorem suiteEnd_nx (i : Option Nat) (e : Ev) : suiteEnd i (.nx e) = SR.ofO (dropE i e) := by
  simp only [suiteEnd]; cases dropE i e <;> rfl
def dropS (s : Sl) (e : Ev) : Option Ev := match s with
  | .err _ => if e.clear then some e else none
  | _ => none
theorem dropE_some (i : Nat) (e : Ev) : dropE (some i) e = dropS (e.at i) (e.set i .no) := by
  show (match e.at i with | .err _ => if Ev.clear (e.set i .no) then some (e.set i .no) else none | _ => none) = _
  unfold dropS
  cases e.at i <;> rfl
theorem dropS_err (x : Ex) (e : Ev) (h : e.clear = true) : dropS (.err x) e = some e := by
  simp [dropS, h]
theorem clear_nil : Ev.clear [] = true := rfl
theorem clear_no (e : Ev) : Ev.clear (Sl.no :: e) = Ev.clear e := by (simp [Ev.clear])
theorem clear_val (d : D) (e : Ev) : Ev.clear (Sl.val d :: e) = Ev.clear e := by (simp [Ev.clear])
theorem clear_own (d : D) (e : Ev) : Ev.clear (Sl.own d :: e) = Ev.clear e := by (simp [Ev.clear])
theorem clear_bor (d : D) (e : Ev) : Ev.clear (Sl.bor d :: e) = Ev.clear e := by (simp [Ev.clear])
theorem clear_ro (d : D) (e : Ev) : Ev.clear (Sl.ro d :: e) = Ev.clear e := by (simp [Ev.clear])
theorem clear_st (d : D) (e : Ev) : Ev.clear (Sl.st d :: e) = Ev.clear e := by (simp [Ev.clear])
theorem catchE_some (i : Nat) (x : Ex) (e : Ev) (h : e.clear = true) (hf : (e.at i).free = true) (hi : i < e.length) : catchE (some i) x e = some (e.set i (.err x)) := by
  unfold catchE
  rw [if_pos h]
  dsimp only
  cases q : e.at i <;> first
    | (rw [q] at hf; cases hf; done)
    | rw [if_pos hi]
theorem catchE_eq (i : Nat) (x : Ex) (e : Ev) : catchE (some i) x e = if e.clear = true then (if (e.at i).free = true ∧ i < e.length then some (e.set i (.err x)) else none) else none := by
  unfold catchE
  split
  · dsimp only
    cases q : e.at i <;> simp [Sl.free]
  · rfl
theorem dropS_eq (x : Ex) (e : Ev) : dropS (.err x) e = if e.clear = true then some e else none := by rfl
section
variable {Γ : List Fn} {G : List D}
theorem evE_isi (i m : Nat) (ns : List Nat) (e : Ev) : evE Γ G (.isi i m ns) e = isiS (e.at i) ns e := by
  show (match e.at i with | .err x => Res.ok (Out.val (D.bl (ns.contains x.cls))) e | _ => Res.bad) = _
  unfold isiS
  cases e.at i <;> rfl
theorem evE_callx (fs : List Nat) (ix : E) (es : List E) (e : Ev) : evE Γ G (.callx fs ix es) e = (toI (evE Γ G ix e)).bind fun k e1 => pickK (k.bind (atI fs)) fun f => (evO Γ G es e1).bind fun os e2 => callR Γ[f]? os e2 := by
  show (toI (evE Γ G ix e)).bind (fun k e1 => match k.bind (atI fs) with | some f => (evO Γ G es e1).bind fun os e2 => callR Γ[f]? os e2 | none => .bad) = _
  congr 1
theorem evP_isi (i m : Nat) (ns : List Nat) (e : Ev) : evP Γ G (.isi i m ns) e = (toV (evE Γ G (.isi i m ns) e)).bind fun d e1 => .ok (.dv d) e1 := rfl
theorem evP_callx (fs : List Nat) (ix : E) (es : List E) (e : Ev) : evP Γ G (.callx fs ix es) e = (toV (evE Γ G (.callx fs ix es) e)).bind fun d e1 => .ok (.dv d) e1 := rfl
theorem evE_truth_isi (i m : Nat) (ns : List Nat) (e : Ev) : evE Γ G (.truth (.isi i m ns)) e = (toV (evE Γ G (.isi i m ns) e)).bind fun d e1 => truB (truD d) e1 := rfl
theorem evE_truth_callx (fs : List Nat) (ix : E) (es : List E) (e : Ev) : evE Γ G (.truth (.callx fs ix es)) e = (toV (evE Γ G (.callx fs ix es) e)).bind fun d e1 => truB (truD d) e1 := rfl
theorem evS_wipe (is : List Nat) (e : Ev) : evS Γ G (.wipe is) e = SR.ofO (wipeE e is) := rfl
theorem evS_tryc (b : List S) (hd : List (List Nat × Option Nat)) (su : List (List S)) (e : Ev) : evS Γ G (.tryc b hd su) e = tryK (evSs Γ G b e) su fun x e' => evHs Γ G su hd x e' := by
  show (match evSs Γ G b e with | .exc x e' => evHs Γ G su hd x e' | r => r) = _
  unfold tryK
  cases evSs Γ G b e <;> rfl
theorem evHs_cons (s : List S) (ss : List (List S)) (h : List Nat × Option Nat) (hs : List (List Nat × Option Nat)) (x : Ex) (e : Ev) : evHs Γ G (s :: ss) (h :: hs) x e = if h.1.contains x.cls then suK (catchE h.2 x e) h.2 (evSs Γ G s) else evHs Γ G ss hs x e := rfl
end
theorem wipeE_nil (e : Ev) : wipeE e [] = some e := rfl
theorem wipeE_cons (e : Ev) (i : Nat) (is : List Nat) : wipeE e (i :: is) = (wipeE e is).bind fun e' => if (e'.at i).free = true then some (e'.set i .no) else none := by
  show (match wipeE e is with | some e' => (match e'.at i with | .bor _ => none | _ => some (e'.set i .no)) | none => none) = _
  cases wipeE e is with
  | none => rfl
  | some e' =>
    show (match e'.at i with | .bor _ => none | _ => some (e'.set i .no)) = if (e'.at i).free = true then some (e'.set i .no) else none
    cases e'.at i <;> rfl
theorem put_tupL (ps : List Pat) (ds : List D) (e : Ev) : put (.tup ps) (.lst ds) e = putL ps ds e := by simp [put]
/-! ### loops -/
def srT {σ : Type} (E B R : σ → Ev) : St1 σ → SR
  | .go s => .nx (E s)
  | .brk s => .brk (B s)
  | .ret o s => .ret o (R s)
  | .exc x s => .exc x (R s)
def srE {σ : Type} (E B R : σ → Ev) : St1 σ → SR
  | .go s => .nx (E s)
  | .brk s => .nx (B s)
  | .ret o s => .ret o (R s)
  | .exc x s => .exc x (R s)
theorem forRun_eq {α σ : Type} {body : D → Ev → SR} (f : α → D) (E B R : σ → Ev) (I : List α → σ → Prop) (step : σ → α → St1 σ)
    (h : ∀ s x r, I (x :: r) s → body (f x) (E s) = srT E B R (step s x) ∧ ∀ s', step s x = .go s' → I r s') : ∀ (xs : List α) s, I xs s → forRun body (xs.map f) (E s) = srE E B R (St1.run step s xs)
  | [], s, _ => rfl
  | x :: xs, s, hI => by
    obtain ⟨h1, h2⟩ := h s x xs hI
    have ih := forRun_eq f E B R I step h xs
    rw [List.map_cons, forRun, h1]
    unfold St1.run
    cases hs : step s x with
    | go s' => exact ih s' (h2 s' hs)
    | brk s' => rfl
    | ret o s' => rfl
    | exc x s' => rfl
theorem for_fold {α σ : Type} {body : D → Ev → SR} (f : α → D) (E : σ → Ev) (I : List α → σ → Prop) (g : σ → α → σ) (h : ∀ s x r, I (x :: r) s → body (f x) (E s) = .nx (E (g s x)) ∧ I r (g s x)) :
    ∀ (xs : List α) s, I xs s → forRun body (xs.map f) (E s) = .nx (E (xs.foldl g s))
  | [], s, _ => rfl
  | x :: xs, s, hI => by
    obtain ⟨h1, h2⟩ := h s x xs hI
    rw [List.map_cons, forRun, h1]
    exact for_fold f E I g h xs (g s x) h2
/-- a while, as often as told -/
def wh {σ : Type} (c : σ → Bool) (g : σ → σ) : Nat → σ → σ
  | 0, s => s
  | n + 1, s => if c s then wh c g n (g s) else s
theorem whl_eq {σ : Type} {cnd : Ev → Res Bool} {body : Ev → SR} (E : σ → Ev) (I : σ → Prop) (c : σ → Bool) (g : σ → σ) (m : σ → Nat) (hc : ∀ s, I s → cnd (E s) = .ok (c s) (E s)) (hb : ∀ s, I s → c s = true → body (E s) = .nx (E (g s)) ∧ I (g s) ∧ m (g s) < m s) :
    ∀ n s, I s → m s < n → whlRun cnd body n (E s) = .nx (E (wh c g n s))
  | 0, s, _, h => absurd h (Nat.not_lt_zero _)
  | n + 1, s, hI, h => by
    show (match cnd (E s) with
      | .bad => SR.bad
      | .exc x e1 => .exc x e1
      | .ok false e1 => .nx e1
      | .ok true e1 => match body e1 with
        | .nx e' => whlRun cnd body n e'
        | .cnt e' => whlRun cnd body n e'
        | .brk e' => .nx e'
        | r => r) = _
    rw [hc s hI]
    unfold wh
    cases q : c s with
    | false => rfl
    | true =>
      obtain ⟨h1, h2, h3⟩ := hb s hI q
      dsimp only
      rw [h1]
      exact whl_eq E I c g m hc hb n (g s) h2 (by omega)
/-- a while of the text -/
def whlF (Γ : List Fn) (G : List D) (c : E) (body : List S) (n : Nat) (e : Ev) : SR := whlRun (fun e => toB (evE Γ G c e)) (evSs Γ G body) n e
theorem evS_whl' {Γ : List Fn} {G : List D} (fuel : Ev → Nat) (c : E) (body : List S) (e : Ev) : evS Γ G (.whl fuel c body) e = whlF Γ G c body (fuel e) e := rfl
theorem whlF_eq {Γ : List Fn} {G : List D} {t : E} {body : List S} {σ : Type} (E : σ → Ev) (I : σ → Prop) (c : σ → Bool) (g : σ → σ) (m : σ → Nat) (hc : ∀ s, I s → toB (evE Γ G t (E s)) = .ok (c s) (E s)) (hb : ∀ s, I s → c s = true → evSs Γ G body (E s) = .nx (E (g s)) ∧ I (g s) ∧ m (g s) < m s) (n : Nat) (s : σ) (hI : I s) (hn : m s < n) :
    whlF Γ G t body n (E s) = .nx (E (wh c g n s)) := whl_eq (cnd := fun e => toB (evE Γ G t e)) (body := evSs Γ G body) E I c g m hc hb n s hI hn
theorem items_rng2 {a b : Int} (h1 : small62 a = true) (h2 : small62 b = true) : items .rng2 [.int a, .int b] = some ((List.range (b - a).toNat).map fun (k : Nat) => D.int (a + (k : Int))) := by
  show (if small62 a && small62 b then some (rangeL a 1 (b - a).toNat) else none) = _
  rw [h1, h2, rangeL_map]; rfl
theorem forR_some (it : ItK) (turn : D → Ev → SR) (ds : List D) (e : Ev) {xs : List D} (h : items it ds = some xs) : forR it turn (some ds) e = forRun turn xs e := by
  unfold forR
  dsimp only
  rw [h]
theorem small62_of {i : Int} (h1 : -4611686018427387904 ≤ i) (h2 : i < 4611686018427387904) : small62 i = true := by
  unfold small62
  rw [Bool.and_eq_true]
  exact ⟨decide_eq_true (by omega), decide_eq_true (by omega)⟩
theorem deq_int (i j : Int) : deq (.int i) (.int j) = (i == j) := by simp [deq]
theorem deq_str (i j : List Nat) : deq (.str i) (.str j) = (i == j) := by simp [deq]
/-! ### a list of ints that is lent to be changed -/
def popK (s : Sl) (g : List Int → FO × List Int) (i : Nat) (e : Ev) : Res Out := match s with
  | .own (.lst xs) => (match intsD xs with
    | some ns => foOut (g ns).1 (e.set i (.own (.lst ((g ns).2.map .int))))
    | none => .bad)
  | .bor (.lst xs) => (match intsD xs with
    | some ns => foOut (g ns).1 (e.set i (.bor (.lst ((g ns).2.map .int))))
    | none => .bad)
  | _ => .bad
theorem popK_own (ns : List Int) (g : List Int → FO × List Int) (i : Nat) (e : Ev) : popK (.own (.lst (ns.map .int))) g i e = foOut (g ns).1 (e.set i (.own (.lst ((g ns).2.map .int)))) := by
  simp [popK, intsD_map]
theorem popK_bor (ns : List Int) (g : List Int → FO × List Int) (i : Nat) (e : Ev) : popK (.bor (.lst (ns.map .int))) g i e = foOut (g ns).1 (e.set i (.bor (.lst ((g ns).2.map .int)))) := by
  simp [popK, intsD_map]
theorem foOut_val (d : D) (e : Ev) : foOut (.val d) e = .ok (.val d) e := rfl
theorem foOut_own (d : D) (e : Ev) : foOut (.own d) e = .ok (.own d) e := rfl
theorem foOut_exc (x : Ex) (e : Ev) : foOut (.exc x) e = .exc x e := rfl
/-- a def with one such list, ahead of values -/
theorem call_pop {fn : Fn} {vs : List D} {g : List Int → FO × List Int} {k : Nat} (hm : fn.modes = .bor :: List.replicate k .val) (hd : fn.dflt = []) (hk : vs.length = k) (h : ∀ ns : List Int, fn.mf (.lst (ns.map .int) :: vs) = some ⟨(g ns).1, [.lst ((g ns).2.map .int)]⟩)
    (h' : ∀ d, (∀ ns : List Int, d ≠ .lst (ns.map .int)) → fn.mf (d :: vs) = none) (i : Nat) (e : Ev) : callR (some fn) (.sl i :: vs.map .dv) e = popK (e.at i) g i e := by
  have hv : ∀ (vs : List D) (k : Nat), vs.length = k → argsGet e (List.replicate k .val) (vs.map .dv) = some vs := by
    intro vs
    induction vs with
    | nil => intro k hk; subst hk; rfl
    | cons v vs ih => intro k hk; subst hk; simp [argsGet, argGet, List.replicate_succ, ih _ rfl]
  have ha : ∀ (vs : List D) (k : Nat), vs.length = k → apart (List.replicate k .val) (vs.map .dv) = true := by
    intro vs
    induction vs with
    | nil => intro k hk; subst hk; rfl
    | cons v vs ih => intro k hk; subst hk; simp [apart, List.replicate_succ, ih _ rfl]
  have hl : ∀ (vs : List D) (k : Nat), vs.length = k → lsl (List.replicate k .val) (vs.map .dv) = [] := by
    intro vs
    induction vs with
    | nil => intro k hk; subst hk; rfl
    | cons v vs ih => intro k hk; subst hk; simp [lsl, List.replicate_succ, ih _ rfl]
  have hb : ∀ (vs : List D) (k : Nat), vs.length = k → bors (List.replicate k .val) (vs.map .dv) = [] := by
    intro vs
    induction vs with
    | nil => intro k hk; subst hk; rfl
    | cons v vs ih => intro k hk; subst hk; simp [bors, List.replicate_succ, ih _ rfl]
  have key : ∀ (d : D) (s : D → Sl), (e.at i = s d) → (∀ d, s d = .own d) ∨ (∀ d, s d = .bor d) → callR (some fn) (.sl i :: vs.map .dv) e = match fn.mf (d :: vs) with
      | some r => (match putBack e [i] r.back with
        | none => .bad
        | some e2 => foOut r.out e2)
      | none => .bad := by
    intro d s hs hk2
    have hg : argGet e .bor (.sl i) = some d := by
      rcases hk2 with q | q <;> simp [argGet, hs, q]
    simp only [callR, hd, List.map_nil, List.append_nil, hm]
    rw [argsGet, hg, hv vs k hk]
    simp only [apart, hl vs k hk, ha vs k hk, bors, hb vs k hk]
    cases fn.mf (d :: vs) <;> rfl
  have noInts : ∀ xs : List D, intsD xs = none → ∀ ns : List Int, D.lst xs ≠ .lst (ns.map .int) := fun xs hx ns z => by
    cases z
    rw [intsD_map] at hx; cases hx
  have nol : ∀ d : D, (∀ xs, d ≠ .lst xs) → ∀ ns : List Int, d ≠ .lst (ns.map .int) := fun d hd ns z => hd _ z
  have bad : ∀ s : Sl, e.at i = s → s.mut = false → callR (some fn) (.sl i :: vs.map .dv) e = .bad := by
    intro s hs hm2
    have hg : argGet e .bor (.sl i) = none := by
      show (match e.at i with | .own d => some d | .bor d => some d | _ => none) = none
      rw [hs]
      cases s <;> first | rfl | cases hm2
    simp only [callR, hd, List.map_nil, List.append_nil, hm]
    rw [argsGet, hg]
  cases q : e.at i with
  | no => rw [bad _ q rfl]; rfl
  | val d => rw [bad _ q rfl]; rfl
  | ro d => rw [bad _ q rfl]; rfl
  | st d => rw [bad _ q rfl]; rfl
  | err x => rw [bad _ q rfl]; rfl
  | own d =>
    rw [key d .own q (.inl fun _ => rfl)]
    cases d with
    | lst xs =>
      simp only [popK]
      cases hx : intsD xs with
      | none => rw [h' _ (noInts xs hx)]
      | some ns =>
        have e1 := intsD_inv hx
        subst e1
        rw [h ns]
        simp [putBack, q]
    | _ => rw [h' _ (nol _ fun xs z => by cases z)]; rfl
  | bor d =>
    rw [key d .bor q (.inr fun _ => rfl)]
    cases d with
    | lst xs =>
      simp only [popK]
      cases hx : intsD xs with
      | none => rw [h' _ (noInts xs hx)]
      | some ns =>
        have e1 := intsD_inv hx
        subst e1
        rw [h ns]
        simp [putBack, q]
    | _ => rw [h' _ (nol _ fun xs z => by cases z)]; rfl
/-- .. told once: what it makes of the list, where the values are as asked -/
def popFn (k : Nat) (g : List Int → List D → Option (FO × List Int)) : Fn := ⟨.bor :: List.replicate k .val, [], fun ds => match ds with
  | .lst xs :: vs => (match intsD xs with
    | some ns => (g ns vs).map fun r => ⟨r.1, [.lst (r.2.map .int)]⟩
    | none => none)
  | _ => none⟩
theorem call_popFn {k : Nat} {g : List Int → List D → Option (FO × List Int)} {vs : List D} {g' : List Int → FO × List Int} (hk : vs.length = k) (h : ∀ ns, g ns vs = some (g' ns)) (i : Nat) (e : Ev) : callR (some (popFn k g)) (.sl i :: vs.map .dv) e = popK (e.at i) g' i e := by
  refine call_pop (k := k) rfl rfl hk (fun ns => ?_) (fun d hd => ?_) i e
  · simp [popFn, intsD_map, h]
  · cases d with
    | lst xs =>
      simp only [popFn]
      cases hx : intsD xs with
      | none => rfl
      | some ns => exact absurd (by rw [intsD_inv hx]) (hd ns)
    | _ => rfl
theorem popFn_sem {k : Nat} {g : List Int → List D → Option (FO × List Int)} {P : List D → Option FRes} (h : ∀ (ns : List Int) (vs : List D) (r : FO × List Int), g ns vs = some r → P (.lst (ns.map .int) :: vs) = some ⟨r.1, [.lst (r.2.map .int)]⟩) : ∀ ds r, (popFn k g).mf ds = some r → P ds = some r := by
  intro ds r hr
  simp only [popFn] at hr
  split at hr
  · split at hr
    · rename_i ns hx
      rw [Option.map_eq_some_iff] at hr
      obtain ⟨q, h1, rfl⟩ := hr
      rw [intsD_inv hx]
      exact h ns _ q h1
    · cases hr
  · cases hr
theorem atset (e : Ev) (i j : Nat) (s : Sl) : Ev.at (e.set i s) j = if i = j ∧ i < e.length then s else e.at j := by
  unfold Ev.at
  simp only [List.getD_eq_getElem?_getD, List.getElem?_set]
  by_cases h : i = j
  · subst h
    by_cases q : i < e.length
    · simp [q]
    · simp [q]
  · simp [h]
theorem set_at {e : Ev} {i : Nat} {s : Sl} (h : e.at i = s) (hs : i < e.length) : e.set i s = e := by
  subst h
  unfold Ev.at
  rw [List.getD_eq_getElem?_getD, List.getElem?_eq_getElem hs]
  exact List.set_getElem_self hs
/-! ### an item is stored -/
def stxK (o : Option D) (k : SR) : SR := match o with
  | some _ => k
  | none => .bad
theorem stxK_some (d : D) (k : SR) : stxK (some d) k = k := rfl
def setS (s : Sl) (n : Int) (d : D) (e : Ev) (i : Nat) : Option Ev := match s with
  | .own (.lst xs) => (match ixN xs.length n with
    | some j => some (e.set i (.own (.lst (xs.set j d))))
    | none => none)
  | .bor (.lst xs) => (match ixN xs.length n with
    | some j => some (e.set i (.bor (.lst (xs.set j d))))
    | none => none)
  | _ => none
theorem setIx_eq (e : Ev) (i : Nat) (n : Int) (d : D) : setIx e i (.int n) d = setS (e.at i) n d e i := by
  unfold setIx getOwn setS setOwn
  cases q : e.at i with
  | own x => cases x <;> first | rfl | (rename_i xs; dsimp only; cases ixN xs.length n <;> rfl)
  | bor x => cases x <;> first | rfl | (rename_i xs; dsimp only; cases ixN xs.length n <;> rfl)
  | _ => rfl
theorem setS_own (xs : List D) (n : Int) (d : D) (e : Ev) (i : Nat) : setS (.own (.lst xs)) n d e i = (ixN xs.length n).map fun j => e.set i (.own (.lst (xs.set j d))) := by
  show (match ixN xs.length n with | some j => some (List.set e i (.own (.lst (xs.set j d)))) | none => none) = _
  cases ixN xs.length n <;> rfl
theorem setS_bor (xs : List D) (n : Int) (d : D) (e : Ev) (i : Nat) : setS (.bor (.lst xs)) n d e i = (ixN xs.length n).map fun j => e.set i (.bor (.lst (xs.set j d))) := by
  show (match ixN xs.length n with | some j => some (List.set e i (.bor (.lst (xs.set j d)))) | none => none) = _
  cases ixN xs.length n <;> rfl
theorem evS_stx {Γ : List Fn} {G : List D} (i : Nat) (k x : E) (e : Ev) : evS Γ G (.stx i k x) e = SR.of (toV (evE Γ G x e)) fun d e1 => stxK (gSl (e1.at i)) (SR.of (toV (evE Γ G k e1)) fun n e2 => SR.ofO (setIx e2 i n d)) := by
  show SR.of (toV (evE Γ G x e)) (fun d e1 => match getOwn e1 i with | none => .bad | some _ => SR.of (toV (evE Γ G k e1)) fun n e2 => SR.ofO (setIx e2 i n d)) = _
  congr 1
  funext d e1
  unfold stxK gSl getOwn
  cases e1.at i <;> rfl
def augK (o : Option D) (k : SR) : SR := match o with
  | none => .bad
  | some _ => k
theorem augK_some (d : D) (k : SR) : augK (some d) k = k := rfl
def augG (o : Option D) (k : D → SR) : SR := match o with
  | none => .bad
  | some a => k a
theorem augG_some (d : D) (k : D → SR) : augG (some d) k = k d := rfl
def augP (o : Option Out) (k : D → SR) : SR := match o with
  | some (.val d) => k d
  | _ => .bad
theorem augP_some (d : D) (k : D → SR) : augP (some (.val d)) k = k d := rfl
def gxS (s : Sl) (n : Int) : Option D := match s with
  | .own (.lst xs) => atI xs n
  | .bor (.lst xs) => atI xs n
  | _ => none
theorem gxS_own (xs : List D) (n : Int) : gxS (.own (.lst xs)) n = atI xs n := rfl
theorem gxS_bor (xs : List D) (n : Int) : gxS (.bor (.lst xs)) n = atI xs n := rfl
theorem getIx_eq (e : Ev) (i : Nat) (n : Int) : getIx e i (.int n) = gxS (e.at i) n := by
  unfold getIx getOwn gxS
  cases e.at i with
  | own x => cases x <;> rfl
  | bor x => cases x <;> rfl
  | _ => rfl
theorem evS_augx {Γ : List Fn} {G : List D} (i : Nat) (p : Pr) (k x : E) (e : Ev) : evS Γ G (.augx i p k x) e = augK (gSl (e.at i)) (SR.of (toV (evE Γ G k e)) fun n e1 => augG (getIx e1 i n) fun a => SR.of (toV (evE Γ G x e1)) fun b e2 => augP (prim p [a, b]) fun d => SR.ofO (setIx e2 i n d)) := by
  show (match getOwn e i with
    | none => SR.bad
    | some _ => SR.of (toV (evE Γ G k e)) fun n e1 => match getIx e1 i n with
      | none => SR.bad
      | some a => SR.of (toV (evE Γ G x e1)) fun b e2 => match prim p [a, b] with
        | some (.val d) => SR.ofO (setIx e2 i n d)
        | _ => SR.bad) = _
  have h1 : getOwn e i = gSl (e.at i) := by
    unfold gSl getOwn
    cases e.at i <;> rfl
  rw [h1]
  unfold augK
  cases gSl (e.at i) with
  | none => rfl
  | some _ => rfl
theorem evSs_append {Γ : List Fn} {G : List D} : ∀ (a b : List S) (e : Ev), evSs Γ G (a ++ b) e = (evSs Γ G a e).then (evSs Γ G b)
  | [], b, e => rfl
  | s :: a, b, e => by
    rw [List.cons_append, evSs, evSs]
    cases evS Γ G s e with
    | nx e' => exact evSs_append a b e'
    | _ => rfl
/-! ### a comprehension that changes the state, told exactly -/
def outsV {α σ : Type} (step : σ → α → D × σ) : σ → List α → List D × σ
  | s, [] => ([], s)
  | s, x :: xs => ((step s x).1 :: (outsV step (step s x).2 xs).1, (outsV step (step s x).2 xs).2)
theorem outs_outsV {α σ : Type} (step : σ → α → D × σ) : ∀ (s : σ) (xs : List α), outs (fun s x => (some (step s x).1, (step s x).2)) s xs = outsV step s xs
  | s, [] => rfl
  | s, x :: xs => by simp [outs, outsV, outs_outsV step (step s x).2 xs]
theorem comp_pop {α σ : Type} {Γ : List Fn} {G : List D} {j : Nat} {it : ItK} {elt : Ev → Res Out} {ds : List D} (f : α → D) (E : σ → Ev) (step : σ → α → D × σ) {xs : List α} {s : σ} (hit : items it ds = some (xs.map f)) (hl : xs.length ≤ SZ) (hj : ∀ s, (E s).at j = .no ∧ j < (E s).length)
    (h : ∀ s x, x ∈ xs → ∃ o, elt ((E s).set j (.val (f x))) = .ok o ((E (step s x).2).set j (.val (f x))) ∧ o.d = (step s x).1) :
    compR [j] it (compTurn [j] (.nm j) (evC Γ G none) elt) (some ds) (E s) = .ok (.own (.lst (outsV step s xs).1)) (E (outsV step s xs).2) := by
  have wj : ∀ s t, Sl.free t = true → wipeE ((E s).set j t) [j] = some (E s) := fun s t ht => by
    have hf : (Ev.at ((E s).set j t) j).free = true := by
      rw [atset, if_pos ⟨rfl, (hj s).2⟩]; exact ht
    rw [wipe1 hf, List.set_set, set_at (hj s).1 (hj s).2]
  obtain ⟨e', ⟨t, ht, he⟩, h2⟩ := comp_st (own := [j]) (it := it) (turn := compTurn [j] (.nm j) (evC Γ G none) elt) (ds := ds) f (fun s e => ∃ t, Sl.free t = true ∧ e = (E s).set j t) (fun s x => (some (step s x).1, (step s x).2)) (xs := xs) (e := E s) (e1 := E s) (s := s) hit hl (by
    have := wj s .no rfl
    rw [set_at (hj s).1 (hj s).2] at this; exact this) ⟨.no, rfl, (set_at (hj s).1 (hj s).2).symm⟩ (fun s x e hx ⟨t, ht, he⟩ => by
    subst he
    obtain ⟨o, h1, h2⟩ := h s x hx
    refine ⟨_, ?_, .val (f x), rfl, rfl⟩
    unfold compTurn
    rw [wj s t ht]
    dsimp only
    have hf : ((E s).at j).free = true := by rw [(hj s).1]; rfl
    rw [put_nm hf (hj s).2]
    dsimp only
    rw [evC_none]
    dsimp only
    rw [h1]
    dsimp only
    rw [h2])
  rw [h2 _ (by rw [he]; exact wj _ t ht), outs_outsV]
/-- a comprehension that changes nothing else, told by the state E between the turns and X x within them -/
theorem compXc {α : Type} {own : List Nat} {pat : Pat} {it : ItK} {cnd : Ev → Res Bool} {elt : Ev → Res Out} {ds : List D} (f g : α → D) (p : α → Bool) (X : α → Ev) {xs : List α} {E : Ev} (hit : items it ds = some (xs.map f)) (hl : xs.length ≤ SZ) (h0 : wipeE E own = some E)
    (hw : ∀ x, wipeE (X x) own = some E) (hp : ∀ x ∈ xs, put pat (f x) E = some (X x)) (hc : ∀ x ∈ xs, cnd (X x) = .ok (p x) (X x)) (h : ∀ x ∈ xs, p x = true → ∃ o, elt (X x) = .ok o (X x) ∧ o.d = g x) :
    compR own it (compTurn own pat cnd elt) (some ds) E = .ok (.own (.lst ((xs.filter p).map g))) E := by
  obtain ⟨e', h1, h2⟩ := comp_st (own := own) (it := it) (turn := compTurn own pat cnd elt) (ds := ds) f (fun (_ : Unit) e => wipeE e own = some E) (fun u x => (if p x then some (g x) else none, u)) (xs := xs) (e := E) (e1 := E) (s := ()) hit hl h0 h0 (fun s x e hx hI => by
    refine ⟨X x, ?_, hw x⟩
    unfold compTurn
    rw [hI]
    dsimp only
    rw [hp x hx]
    dsimp only
    rw [hc x hx]
    cases q : p x with
    | false => rfl
    | true =>
      obtain ⟨o, k1, k2⟩ := h x hx q
      dsimp only
      rw [k1]
      dsimp only
      rw [k2]
      rfl)
  rw [h2 _ h1, outs_filter]
theorem compX {α : Type} {own : List Nat} {pat : Pat} {it : ItK} {elt : Ev → Res Out} {ds : List D} {Γ : List Fn} {G : List D} (f g : α → D) (X : α → Ev) {xs : List α} {E : Ev} (hit : items it ds = some (xs.map f)) (hl : xs.length ≤ SZ) (h0 : wipeE E own = some E)
    (hw : ∀ x, wipeE (X x) own = some E) (hp : ∀ x ∈ xs, put pat (f x) E = some (X x)) (h : ∀ x ∈ xs, ∃ o, elt (X x) = .ok o (X x) ∧ o.d = g x) :
    compR own it (compTurn own pat (evC Γ G none) elt) (some ds) E = .ok (.own (.lst (xs.map g))) E := by
  have := compXc (cnd := evC Γ G none) f g (fun _ => true) X hit hl h0 hw hp (fun x _ => evC_none _) (fun x hx _ => h x hx)
  rwa [List.filter_eq_self.mpr (fun _ _ => rfl)] at this
/-! ### lists of ints -/
theorem ints_set (L : List Int) (j : Nat) (v : Int) : (L.map D.int).set j (.int v) = (L.set j v).map .int := by rw [List.map_set]
theorem ixN_nat {n k : Nat} (h : k < n) : ixN n (k : Int) = some k := by
  unfold ixN
  simp [h]
theorem atI_nat {α : Type} {L : List α} {k : Nat} {x : α} (h : L[k]? = some x) : atI L (k : Int) = some x := by
  have hk : k < L.length := (List.getElem?_eq_some_iff.mp h).1
  unfold atI
  rw [ixN_nat hk]
  exact h
theorem ints_at {L : List Int} {k : Nat} (h : k < L.length) : atI (L.map D.int) (k : Int) = some (.int (L.getD k 0)) := by
  refine atI_nat ?_
  rw [List.getElem?_map, List.getElem?_eq_getElem h, List.getD_eq_getElem?_getD, List.getElem?_eq_getElem h]
  rfl
theorem enumD_map {α : Type} (f : α → D) : ∀ (n : Nat) (xs : List α), enumD n (xs.map f) = (xs.zipIdx n).map fun p => .tup [.int (p.2 : Int), f p.1]
  | n, [] => rfl
  | n, x :: xs => by
    rw [List.map_cons, enumD, enumD_map f (n + 1) xs, List.zipIdx_cons, List.map_cons]
theorem zipD_map {α β : Type} (f : α → D) (g : β → D) : ∀ (xs : List α) (ys : List β), zipD (xs.map f) (ys.map g) = (xs.zip ys).map fun p => .tup [f p.1, g p.2]
  | [], ys => by simp [zipD]
  | x :: xs, [] => by simp [zipD]
  | x :: xs, y :: ys => by
    rw [List.map_cons, List.map_cons, zipD, zipD_map f g xs ys, List.zip_cons_cons, List.map_cons]
theorem items_enum (xs : List D) : items .enum [.lst xs] = some (enumD 0 xs) := rfl
theorem items_zip (xs ys : List D) : items .zip [.lst xs, .lst ys] = some (zipD xs ys) := rfl
end Mini

set_option Elab.async false
set_option linter.all false
set_option maxRecDepth 100000
namespace Gc
open Mini
/-! ### _law_number: 0 _law_cell -/
def N__law_number : Nat := 1
def ss__law_number : List S :=
  [.if_ (.pr .lt [(.rd 0), (.k (.int 0))])
    [.ret (.pr .sub [(.k (.int 0)), (.rd 0)])]
    [],
  .ret (.mv 0)]
/-! ### _law_draws: 0 _law_script, 1 _law_draws_here, 2 _law_cell, 3 _law_rest, 4 _law_k, 5 _law_once, 6 _law_twice -/
def N__law_draws : Nat := 7
def bd__law_draws_1 (f__law_number : Nat) : List S :=
  [.if_ (.pr .eq [(.rd 3), (.k (.int 0))])
    [.wipe [3, 4],
    .brk]
    [],
  .ex (.mu .append 1 [(.pr .mod [(.pr .int [(.rd 3)]), (.k (.int 1000))])]),
  .set (.nm 3) (.pr .fdiv [(.rd 3), (.k (.int 1000))]),
  .wipe [4]]
def bd__law_draws_2 (f__law_number : Nat) : List S :=
  [.set (.nm 3) (.call f__law_number [(.v 2)]),
  .if_ (.pr .ge [(.rd 3), (.k (.int 1000000000000000000))])
    [.for_ (.nm 4) .rng1 [(.k (.int 60))] (bd__law_draws_1 f__law_number),
    .wipe [3]]
    [.set (.nm 5) (.pr .mod [(.pr .int [(.pr .add [(.pr .mul [(.rd 3), (.k (.int 48271))]), (.k (.int 11))])]), (.k (.int 2147483647))]),
    .set (.nm 6) (.pr .mod [(.pr .int [(.pr .add [(.pr .mul [(.rd 5), (.k (.int 69621))]), (.rd 3)])]), (.k (.int 2147483629))]),
    .ex (.mu .extend 1 [(.pr .lst [(.pr .mod [(.pr .int [(.rd 3)]), (.k (.int 1000))]), (.pr .mod [(.pr .int [(.rd 5)]), (.k (.int 1000))]), (.pr .mod [(.pr .int [(.rd 6)]), (.k (.int 1000))])])])],
  .wipe [2, 3, 4, 5, 6]]
def ss__law_draws (f__law_number : Nat) : List S :=
  [.set (.nm 1) (.pr .lst []),
  .wipe [3, 4, 5, 6],
  .for_ (.nm 2) .seq [(.rd 0)] (bd__law_draws_2 f__law_number),
  .ret (.mv 1)]
/-! ### _law_next: 0 _law_draws_here -/
def N__law_next : Nat := 1
def ss__law_next : List S :=
  [.if_ (.truth (.rd 0))
    [.ret (.mu .pop 0 [])]
    [],
  .ret (.k (.int 0))]
end Gc

set_option Elab.async false
set_option linter.all false
set_option maxRecDepth 100000
namespace Gc
open Mini
/-! the draws of a script -/
def numF (i : Int) : Int := if i < 0 then 0 - i else i
def f__law_number : Fn := ⟨[.val], [], fun ds => match ds with
  | [.int i] => some ⟨.val (.int (numF i)), []⟩
  | _ => none⟩
theorem sem__law_number {Γ : List Fn} {G : List D} : ∀ ds r, f__law_number.mf ds = some r → runDef Γ G N__law_number f__law_number.modes ss__law_number ds = some r := by
  intro ds r h
  simp only [f__law_number] at h
  split at h
  · rename_i i
    cases h
    by_cases hi : i < 0 <;>
    simp [runDef, leave, backs, enter, f__law_number, N__law_number, ss__law_number, at0, atS, ofOut_some, ofOut_none, rdOp_eq, rdS_val, rdS_own, rdS_bor, rdS_ro, rdS_st, vS_val, vS_own, mvS_val, mvS_own, evE_v, evE_mv, evE_k, evE_g, evE_pr, primR_some, evO_nil, evO_cons', evP_rd, evP_v, evP_mv, evP_k, evP_g, evP_pr, evP_chain, evP_and, evP_or, evP_not, evP_ite, evP_slc, evP_meth, evP_call, evP_mu, evP_comp, opds_nil, opds_cons, cons2_some, get_dv, get_sl, getS_own0, getS_own1, getS_bor0, getS_bor1, getS_ro0, getS_ro1, getS_st0, stays_nilR, stays_consR, stay_dv, stay_sl, stS_ro, stS_st, evE_chain, chainR_bl, evE_and, evE_or, evE_not, evE_ite, evE_truth_rd, evE_truth_v, evE_truth_mv, evE_truth_k, evE_truth_g, evE_truth_pr, evE_truth_chain, evE_truth_and, evE_truth_or, evE_truth_not, evE_truth_ite, evE_truth_slc, evE_truth_meth, evE_truth_call, evE_truth_mu, evE_truth_comp, truO_some, truB_some, truD_non, truD_bl, truD_int, truD_str, truD_lst, truD_tup, evE_slc', evB_none, evB_some, slcR_some, slcF_lst, slcF_str, evE_meth', methR_some, recv_index, recv_split, recv_join, methF_index, methF_split, methF_join, evE_call, evE_mu, gSl_own, gSl_bor, muS_lst, muR_eq, muV_lst, muT_some, okE_some, sSl_own, sSl_bor, muL_append, muL_extend, muL_pop, muL_reverse, evE_comp, evC_none, evC_some, evS_set, evS_par, valK_some, valsOf_nil, valsOf_cons, parPut_nil, parPut_cons, evS_aug, augS_val, augT_val, evS_ex, evS_ret, evS_retN, evS_if, evS_for, evS_whl', evS_brk, evS_cnt, evS_pass, evS_rai, evSs_nil, evSs_cons, forR_seq, forR_tup, forR_str, prim1_add, prim2_add, prim3_add, prim4_sub, prim5_mul, prim6_mul, prim7_mul, prim8_fdiv, prim9_mod, prim10_pow, prim11_neg, prim12_eq, prim13_ne, prim14_lt, prim15_le, prim16_gt, prim17_ge, prim18_lt, prim19_le, prim20_gt, prim21_ge, prim22_isin, prim23_notin, prim24_isin, prim25_isin, prim26_notin, prim27_notin, prim28_isN, prim29_notN, prim30_isB, prim31_notB, prim32_ix, prim33_ix, prim34_ix, prim35_tup, prim36_lst, prim37_len, prim38_len, prim39_len, prim40_abs, prim41_int, prim42_int, prim43_int, prim44_ord, prim45_str, prim46_repr, prim47_list, prim48_list, prim49_sum, prim50_any, prim51_all, Pr.need, isEmpty_snoc, Res.bind_ok, Res.bind_bad, Res.bind_exc, SR.of_ok, SR.of_bad, SR.of_exc, SR.then_nx, SR.then_ret, SR.then_brk, SR.then_cnt, SR.then_exc, SR.then_bad, SR.ofO_some, SR.ofO_none, toV_ok, toB_ok, toI_ok, Out.d_val, Out.d_own, putOut_val, putOut_tup, put_nm', put_own', put_tup, putL_nil, putL_cons, free_no, free_val, free_own, free_ro, free_st, free_bor, free_err, rdS_err, evE_isi, isiS_err, evE_callx, pickK_some, evP_isi, evP_callx, evE_truth_isi, evE_truth_callx, evS_wipe, evS_tryc, tryK_exc, tryK_nx, tryK_ret, tryK_brk, tryK_cnt, evHs_cons, suK_some, suiteEnd_ret, suiteEnd_nx, dropE_some, dropS_eq, clear_nil, clear_no, clear_val, clear_own, clear_bor, clear_ro, clear_st, catchE_eq, wipeE_nil, wipeE_cons, put_tupL, evS_stx, stxK_some, setIx_eq, setS_own, setS_bor, popK_own, popK_bor, foOut_val, foOut_own, foOut_exc, recv_scount, recv_sfind, recv_sindex, recv_lcount, methF_scount, methF_sfind, methF_sindex, methF_lcount, prim_inR, evS_augx, augK_some, augG_some, augP_some, getIx_eq, gxS_own, gxS_bor, Option.bind_some, Option.bind_none, hi, numF]
  · cases h
theorem call__law_number {i : Int} {e : Ev} : callR (some f__law_number) [.dv (.int i)] e = .ok (.val (.int (numF i))) e := by
  simp [callR, argsGet, argGet, apart, bors, lsl, putBack, foOut, f__law_number]
def nextF (ds : List Int) : Int × List Int := match ds.getLast? with
  | some y => (y, ds.dropLast)
  | none => (0, [])
def f__law_next : Fn := popFn 0 fun ns vs => match vs with
  | [] => some (.val (.int (nextF ns).1), (nextF ns).2)
  | _ => none
theorem sem__law_next {Γ : List Fn} {G : List D} : ∀ ds r, f__law_next.mf ds = some r → runDef Γ G N__law_next f__law_next.modes ss__law_next ds = some r := by
  refine popFn_sem fun ns vs r h => ?_
  split at h
  · cases h
    rcases List.eq_nil_or_concat ns with rfl | ⟨l, y, rfl⟩ <;>
    simp [runDef, leave, backs, enter, f__law_next, popFn, N__law_next, ss__law_next, at0, atS, ofOut_some, ofOut_none, rdOp_eq, rdS_val, rdS_own, rdS_bor, rdS_ro, rdS_st, vS_val, vS_own, mvS_val, mvS_own, evE_v, evE_mv, evE_k, evE_g, evE_pr, primR_some, evO_nil, evO_cons', evP_rd, evP_v, evP_mv, evP_k, evP_g, evP_pr, evP_chain, evP_and, evP_or, evP_not, evP_ite, evP_slc, evP_meth, evP_call, evP_mu, evP_comp, opds_nil, opds_cons, cons2_some, get_dv, get_sl, getS_own0, getS_own1, getS_bor0, getS_bor1, getS_ro0, getS_ro1, getS_st0, stays_nilR, stays_consR, stay_dv, stay_sl, stS_ro, stS_st, evE_chain, chainR_bl, evE_and, evE_or, evE_not, evE_ite, evE_truth_rd, evE_truth_v, evE_truth_mv, evE_truth_k, evE_truth_g, evE_truth_pr, evE_truth_chain, evE_truth_and, evE_truth_or, evE_truth_not, evE_truth_ite, evE_truth_slc, evE_truth_meth, evE_truth_call, evE_truth_mu, evE_truth_comp, truO_some, truB_some, truD_non, truD_bl, truD_int, truD_str, truD_lst, truD_tup, evE_slc', evB_none, evB_some, slcR_some, slcF_lst, slcF_str, evE_meth', methR_some, recv_index, recv_split, recv_join, methF_index, methF_split, methF_join, evE_call, evE_mu, gSl_own, gSl_bor, muS_lst, muR_eq, muV_lst, muT_some, okE_some, sSl_own, sSl_bor, muL_append, muL_extend, muL_pop, muL_reverse, evE_comp, evC_none, evC_some, evS_set, evS_par, valK_some, valsOf_nil, valsOf_cons, parPut_nil, parPut_cons, evS_aug, augS_val, augT_val, evS_ex, evS_ret, evS_retN, evS_if, evS_for, evS_whl', evS_brk, evS_cnt, evS_pass, evS_rai, evSs_nil, evSs_cons, forR_seq, forR_tup, forR_str, prim1_add, prim2_add, prim3_add, prim4_sub, prim5_mul, prim6_mul, prim7_mul, prim8_fdiv, prim9_mod, prim10_pow, prim11_neg, prim12_eq, prim13_ne, prim14_lt, prim15_le, prim16_gt, prim17_ge, prim18_lt, prim19_le, prim20_gt, prim21_ge, prim22_isin, prim23_notin, prim24_isin, prim25_isin, prim26_notin, prim27_notin, prim28_isN, prim29_notN, prim30_isB, prim31_notB, prim32_ix, prim33_ix, prim34_ix, prim35_tup, prim36_lst, prim37_len, prim38_len, prim39_len, prim40_abs, prim41_int, prim42_int, prim43_int, prim44_ord, prim45_str, prim46_repr, prim47_list, prim48_list, prim49_sum, prim50_any, prim51_all, Pr.need, isEmpty_snoc, Res.bind_ok, Res.bind_bad, Res.bind_exc, SR.of_ok, SR.of_bad, SR.of_exc, SR.then_nx, SR.then_ret, SR.then_brk, SR.then_cnt, SR.then_exc, SR.then_bad, SR.ofO_some, SR.ofO_none, toV_ok, toB_ok, toI_ok, Out.d_val, Out.d_own, putOut_val, putOut_tup, put_nm', put_own', put_tup, putL_nil, putL_cons, free_no, free_val, free_own, free_ro, free_st, free_bor, free_err, rdS_err, evE_isi, isiS_err, evE_callx, pickK_some, evP_isi, evP_callx, evE_truth_isi, evE_truth_callx, evS_wipe, evS_tryc, tryK_exc, tryK_nx, tryK_ret, tryK_brk, tryK_cnt, evHs_cons, suK_some, suiteEnd_ret, suiteEnd_nx, dropE_some, dropS_eq, clear_nil, clear_no, clear_val, clear_own, clear_bor, clear_ro, clear_st, catchE_eq, wipeE_nil, wipeE_cons, put_tupL, evS_stx, stxK_some, setIx_eq, setS_own, setS_bor, popK_own, popK_bor, foOut_val, foOut_own, foOut_exc, recv_scount, recv_sfind, recv_sindex, recv_lcount, methF_scount, methF_sfind, methF_sindex, methF_lcount, prim_inR, evS_augx, augK_some, augG_some, augP_some, getIx_eq, gxS_own, gxS_bor, Option.bind_some, Option.bind_none, nextF]
  · cases h
theorem call__law_next (i : Nat) (e : Ev) : callR (some f__law_next) [.sl i] e = popK (e.at i) (fun ns => (.val (.int (nextF ns).1), (nextF ns).2)) i e := call_popFn (vs := []) rfl (fun _ => rfl) i e
def digsF : Nat → Int → List Int
  | 0, _ => []
  | n + 1, r => if r = 0 then [] else r.fmod 1000 :: digsF n (r.fdiv 1000)
def cellF (i : Int) : List Int :=
  if numF i ≥ 1000000000000000000 then digsF 60 (numF i) else
    [(numF i).fmod 1000, ((numF i * 48271 + 11).fmod 2147483647).fmod 1000, (((numF i * 48271 + 11).fmod 2147483647 * 69621 + numF i).fmod 2147483629).fmod 1000]
def drawsF (ns : List Int) : List Int := (ns.map cellF).flatten
theorem digsF_len : ∀ n r, (digsF n r).length ≤ n
  | 0, _ => Nat.le_refl _
  | n + 1, r => by
    unfold digsF
    split
    · simp
    · simp only [List.length_cons]; have := digsF_len n (r.fdiv 1000); omega
theorem cellF_len (i : Int) : (cellF i).length ≤ 60 := by
  unfold cellF
  split
  · exact digsF_len _ _
  · simp
theorem drawsF_len : ∀ ns : List Int, (drawsF ns).length ≤ 60 * ns.length
  | [] => by simp [drawsF]
  | n :: ns => by
    have := drawsF_len ns
    have := cellF_len n
    simp only [drawsF, List.map_cons, List.flatten_cons, List.length_append, List.length_cons] at *
    omega
def f__law_draws : Fn := ⟨[.st], [], fun ds => match ds with
  | [.lst xs] => match intsD xs with
    | some ns => if ns.length ≤ 63 then some ⟨.own (.lst ((drawsF ns).map .int)), []⟩ else none
    | none => none
  | _ => none⟩
def digStep (s : List Int × Int) (_ : Nat) : St1 (List Int × Int) := if s.2 = 0 then .brk s else .go (s.1 ++ [s.2.fmod 1000], s.2.fdiv 1000)
theorem dig_run : ∀ (xs : List Nat) (a : List Int) (r : Int), ∃ r', (St1.run digStep (a, r) xs) = .go (a ++ digsF xs.length r, r') ∨ (St1.run digStep (a, r) xs) = .brk (a ++ digsF xs.length r, r')
  | [], a, r => ⟨r, by simp [St1.run, digsF]⟩
  | x :: xs, a, r => by
    by_cases h : r = 0
    · exact ⟨r, by simp [St1.run, digStep, digsF, h]⟩
    · obtain ⟨r', h'⟩ := dig_run xs (a ++ [r.fmod 1000]) (r.fdiv 1000)
      refine ⟨r', ?_⟩
      simp only [St1.run, digStep, if_neg h]
      rcases h' with h' | h' <;> rw [h'] <;> simp [digsF, h]
section
variable {Γ : List Fn} {G : List D} {fp : Nat}
theorem dig_loop {d0 : Sl} {n : D} {a : List Int} {r : Int} (ha : a.length + 60 ≤ SZ) :
    ∃ s3, Sl.free s3 = true ∧ forRun (turnF Γ G (.nm 4) (bd__law_draws_1 fp)) ((List.range 60).map fun (k : Nat) => .int (k : Int)) [d0, .own (.lst (a.map .int)), .val n, .val (.int r), .no, .no, .no] = .nx [d0, .own (.lst ((a ++ digsF 60 r).map .int)), .val n, s3, .no, .no, .no] := by
  have key := forRun_eq (body := turnF Γ G (.nm 4) (bd__law_draws_1 fp)) (fun (k : Nat) => D.int (k : Int)) (fun (s : List Int × Int) => [d0, .own (.lst (s.1.map .int)), .val n, .val (.int s.2), .no, .no, .no])
    (fun s => [d0, .own (.lst (s.1.map .int)), .val n, .no, .no, .no, .no]) (fun s => []) (fun xs s => s.1.length + xs.length ≤ SZ) digStep (fun s x xs hl => ?_) (List.range 60) (a, r) (by simpa using ha)
  · obtain ⟨r', h⟩ := dig_run (List.range 60) a r
    rw [List.length_range] at h
    rcases h with h | h
    · rw [h] at key
      exact ⟨_, rfl, key⟩
    · rw [h] at key
      exact ⟨_, rfl, key⟩
  · obtain ⟨b, q⟩ := s
    simp only [List.length_cons] at hl
    by_cases hq : q = 0
    · refine ⟨?_, fun s' h => ?_⟩
      · simp [turnF, bd__law_draws_1, at0, atS, ofOut_some, ofOut_none, rdOp_eq, rdS_val, rdS_own, rdS_bor, rdS_ro, rdS_st, vS_val, vS_own, mvS_val, mvS_own, evE_v, evE_mv, evE_k, evE_g, evE_pr, primR_some, evO_nil, evO_cons', evP_rd, evP_v, evP_mv, evP_k, evP_g, evP_pr, evP_chain, evP_and, evP_or, evP_not, evP_ite, evP_slc, evP_meth, evP_call, evP_mu, evP_comp, opds_nil, opds_cons, cons2_some, get_dv, get_sl, getS_own0, getS_own1, getS_bor0, getS_bor1, getS_ro0, getS_ro1, getS_st0, stays_nilR, stays_consR, stay_dv, stay_sl, stS_ro, stS_st, evE_chain, chainR_bl, evE_and, evE_or, evE_not, evE_ite, evE_truth_rd, evE_truth_v, evE_truth_mv, evE_truth_k, evE_truth_g, evE_truth_pr, evE_truth_chain, evE_truth_and, evE_truth_or, evE_truth_not, evE_truth_ite, evE_truth_slc, evE_truth_meth, evE_truth_call, evE_truth_mu, evE_truth_comp, truO_some, truB_some, truD_non, truD_bl, truD_int, truD_str, truD_lst, truD_tup, evE_slc', evB_none, evB_some, slcR_some, slcF_lst, slcF_str, evE_meth', methR_some, recv_index, recv_split, recv_join, methF_index, methF_split, methF_join, evE_call, evE_mu, gSl_own, gSl_bor, muS_lst, muR_eq, muV_lst, muT_some, okE_some, sSl_own, sSl_bor, muL_append, muL_extend, muL_pop, muL_reverse, evE_comp, evC_none, evC_some, evS_set, evS_par, valK_some, valsOf_nil, valsOf_cons, parPut_nil, parPut_cons, evS_aug, augS_val, augT_val, evS_ex, evS_ret, evS_retN, evS_if, evS_for, evS_whl', evS_brk, evS_cnt, evS_pass, evS_rai, evSs_nil, evSs_cons, forR_seq, forR_tup, forR_str, prim1_add, prim2_add, prim3_add, prim4_sub, prim5_mul, prim6_mul, prim7_mul, prim8_fdiv, prim9_mod, prim10_pow, prim11_neg, prim12_eq, prim13_ne, prim14_lt, prim15_le, prim16_gt, prim17_ge, prim18_lt, prim19_le, prim20_gt, prim21_ge, prim22_isin, prim23_notin, prim24_isin, prim25_isin, prim26_notin, prim27_notin, prim28_isN, prim29_notN, prim30_isB, prim31_notB, prim32_ix, prim33_ix, prim34_ix, prim35_tup, prim36_lst, prim37_len, prim38_len, prim39_len, prim40_abs, prim41_int, prim42_int, prim43_int, prim44_ord, prim45_str, prim46_repr, prim47_list, prim48_list, prim49_sum, prim50_any, prim51_all, Pr.need, isEmpty_snoc, Res.bind_ok, Res.bind_bad, Res.bind_exc, SR.of_ok, SR.of_bad, SR.of_exc, SR.then_nx, SR.then_ret, SR.then_brk, SR.then_cnt, SR.then_exc, SR.then_bad, SR.ofO_some, SR.ofO_none, toV_ok, toB_ok, toI_ok, Out.d_val, Out.d_own, putOut_val, putOut_tup, put_nm', put_own', put_tup, putL_nil, putL_cons, free_no, free_val, free_own, free_ro, free_st, free_bor, free_err, rdS_err, evE_isi, isiS_err, evE_callx, pickK_some, evP_isi, evP_callx, evE_truth_isi, evE_truth_callx, evS_wipe, evS_tryc, tryK_exc, tryK_nx, tryK_ret, tryK_brk, tryK_cnt, evHs_cons, suK_some, suiteEnd_ret, suiteEnd_nx, dropE_some, dropS_eq, clear_nil, clear_no, clear_val, clear_own, clear_bor, clear_ro, clear_st, catchE_eq, wipeE_nil, wipeE_cons, put_tupL, evS_stx, stxK_some, setIx_eq, setS_own, setS_bor, popK_own, popK_bor, foOut_val, foOut_own, foOut_exc, recv_scount, recv_sfind, recv_sindex, recv_lcount, methF_scount, methF_sfind, methF_sindex, methF_lcount, prim_inR, evS_augx, augK_some, augG_some, augP_some, getIx_eq, gxS_own, gxS_bor, Option.bind_some, Option.bind_none, plain, deq, hq, digStep, srT]
      · simp [digStep, hq] at h
    · have hb : b.length < SZ := by omega
      have hdv : divOk 1000 = true := by decide +kernel
      have hq' : (q == 0) = false := by simpa using hq
      refine ⟨?_, fun s' h => ?_⟩
      · simp [turnF, bd__law_draws_1, at0, atS, ofOut_some, ofOut_none, rdOp_eq, rdS_val, rdS_own, rdS_bor, rdS_ro, rdS_st, vS_val, vS_own, mvS_val, mvS_own, evE_v, evE_mv, evE_k, evE_g, evE_pr, primR_some, evO_nil, evO_cons', evP_rd, evP_v, evP_mv, evP_k, evP_g, evP_pr, evP_chain, evP_and, evP_or, evP_not, evP_ite, evP_slc, evP_meth, evP_call, evP_mu, evP_comp, opds_nil, opds_cons, cons2_some, get_dv, get_sl, getS_own0, getS_own1, getS_bor0, getS_bor1, getS_ro0, getS_ro1, getS_st0, stays_nilR, stays_consR, stay_dv, stay_sl, stS_ro, stS_st, evE_chain, chainR_bl, evE_and, evE_or, evE_not, evE_ite, evE_truth_rd, evE_truth_v, evE_truth_mv, evE_truth_k, evE_truth_g, evE_truth_pr, evE_truth_chain, evE_truth_and, evE_truth_or, evE_truth_not, evE_truth_ite, evE_truth_slc, evE_truth_meth, evE_truth_call, evE_truth_mu, evE_truth_comp, truO_some, truB_some, truD_non, truD_bl, truD_int, truD_str, truD_lst, truD_tup, evE_slc', evB_none, evB_some, slcR_some, slcF_lst, slcF_str, evE_meth', methR_some, recv_index, recv_split, recv_join, methF_index, methF_split, methF_join, evE_call, evE_mu, gSl_own, gSl_bor, muS_lst, muR_eq, muV_lst, muT_some, okE_some, sSl_own, sSl_bor, muL_append, muL_extend, muL_pop, muL_reverse, evE_comp, evC_none, evC_some, evS_set, evS_par, valK_some, valsOf_nil, valsOf_cons, parPut_nil, parPut_cons, evS_aug, augS_val, augT_val, evS_ex, evS_ret, evS_retN, evS_if, evS_for, evS_whl', evS_brk, evS_cnt, evS_pass, evS_rai, evSs_nil, evSs_cons, forR_seq, forR_tup, forR_str, prim1_add, prim2_add, prim3_add, prim4_sub, prim5_mul, prim6_mul, prim7_mul, prim8_fdiv, prim9_mod, prim10_pow, prim11_neg, prim12_eq, prim13_ne, prim14_lt, prim15_le, prim16_gt, prim17_ge, prim18_lt, prim19_le, prim20_gt, prim21_ge, prim22_isin, prim23_notin, prim24_isin, prim25_isin, prim26_notin, prim27_notin, prim28_isN, prim29_notN, prim30_isB, prim31_notB, prim32_ix, prim33_ix, prim34_ix, prim35_tup, prim36_lst, prim37_len, prim38_len, prim39_len, prim40_abs, prim41_int, prim42_int, prim43_int, prim44_ord, prim45_str, prim46_repr, prim47_list, prim48_list, prim49_sum, prim50_any, prim51_all, Pr.need, isEmpty_snoc, Res.bind_ok, Res.bind_bad, Res.bind_exc, SR.of_ok, SR.of_bad, SR.of_exc, SR.then_nx, SR.then_ret, SR.then_brk, SR.then_cnt, SR.then_exc, SR.then_bad, SR.ofO_some, SR.ofO_none, toV_ok, toB_ok, toI_ok, Out.d_val, Out.d_own, putOut_val, putOut_tup, put_nm', put_own', put_tup, putL_nil, putL_cons, free_no, free_val, free_own, free_ro, free_st, free_bor, free_err, rdS_err, evE_isi, isiS_err, evE_callx, pickK_some, evP_isi, evP_callx, evE_truth_isi, evE_truth_callx, evS_wipe, evS_tryc, tryK_exc, tryK_nx, tryK_ret, tryK_brk, tryK_cnt, evHs_cons, suK_some, suiteEnd_ret, suiteEnd_nx, dropE_some, dropS_eq, clear_nil, clear_no, clear_val, clear_own, clear_bor, clear_ro, clear_st, catchE_eq, wipeE_nil, wipeE_cons, put_tupL, evS_stx, stxK_some, setIx_eq, setS_own, setS_bor, popK_own, popK_bor, foOut_val, foOut_own, foOut_exc, recv_scount, recv_sfind, recv_sindex, recv_lcount, methF_scount, methF_sfind, methF_sindex, methF_lcount, prim_inR, evS_augx, augK_some, augG_some, augP_some, getIx_eq, gxS_own, gxS_bor, Option.bind_some, Option.bind_none, plain, deq, hq, hq', hb, hdv, digStep, srT]
      · simp [digStep, hq] at h
        subst h
        simp; omega
theorem cell_loop {d0 : Sl} {a : List Int} {ns : List Int} (hf : Γ[fp]? = some f__law_number) (ha : a.length + 60 * ns.length ≤ SZ) :
    forRun (turnF Γ G (.nm 2) (bd__law_draws_2 fp)) (ns.map .int) [d0, .own (.lst (a.map .int)), .no, .no, .no, .no, .no] = .nx [d0, .own (.lst ((a ++ drawsF ns).map .int)), .no, .no, .no, .no, .no] := by
  have key := for_fold (body := turnF Γ G (.nm 2) (bd__law_draws_2 fp)) D.int (fun (s : List Int) => [d0, .own (.lst (s.map .int)), .no, .no, .no, .no, .no]) (fun xs s => s.length + 60 * xs.length ≤ SZ) (fun s n => s ++ cellF n) (fun s n xs hl => ?_) ns a ha
  · rw [key]
    congr 6
    clear key ha
    induction ns generalizing a with
    | nil => simp [drawsF]
    | cons n ns ih => rw [List.foldl_cons, ih]; simp [drawsF]
  · simp only [List.length_cons] at hl
    refine ⟨?_, by have := cellF_len n; simp; omega⟩
    by_cases hn : numF n ≥ 1000000000000000000
    · obtain ⟨s3, hs3, h⟩ := dig_loop (Γ := Γ) (G := G) (fp := fp) (d0 := d0) (n := .int n) (a := s) (r := numF n) (by omega)
      have hs : small62 60 = true := by decide +kernel
      have h' := h
      simp at h'
      simp [turnF, bd__law_draws_2, at0, atS, ofOut_some, ofOut_none, rdOp_eq, rdS_val, rdS_own, rdS_bor, rdS_ro, rdS_st, vS_val, vS_own, mvS_val, mvS_own, evE_v, evE_mv, evE_k, evE_g, evE_pr, primR_some, evO_nil, evO_cons', evP_rd, evP_v, evP_mv, evP_k, evP_g, evP_pr, evP_chain, evP_and, evP_or, evP_not, evP_ite, evP_slc, evP_meth, evP_call, evP_mu, evP_comp, opds_nil, opds_cons, cons2_some, get_dv, get_sl, getS_own0, getS_own1, getS_bor0, getS_bor1, getS_ro0, getS_ro1, getS_st0, stays_nilR, stays_consR, stay_dv, stay_sl, stS_ro, stS_st, evE_chain, chainR_bl, evE_and, evE_or, evE_not, evE_ite, evE_truth_rd, evE_truth_v, evE_truth_mv, evE_truth_k, evE_truth_g, evE_truth_pr, evE_truth_chain, evE_truth_and, evE_truth_or, evE_truth_not, evE_truth_ite, evE_truth_slc, evE_truth_meth, evE_truth_call, evE_truth_mu, evE_truth_comp, truO_some, truB_some, truD_non, truD_bl, truD_int, truD_str, truD_lst, truD_tup, evE_slc', evB_none, evB_some, slcR_some, slcF_lst, slcF_str, evE_meth', methR_some, recv_index, recv_split, recv_join, methF_index, methF_split, methF_join, evE_call, evE_mu, gSl_own, gSl_bor, muS_lst, muR_eq, muV_lst, muT_some, okE_some, sSl_own, sSl_bor, muL_append, muL_extend, muL_pop, muL_reverse, evE_comp, evC_none, evC_some, evS_set, evS_par, valK_some, valsOf_nil, valsOf_cons, parPut_nil, parPut_cons, evS_aug, augS_val, augT_val, evS_ex, evS_ret, evS_retN, evS_if, evS_for, evS_whl', evS_brk, evS_cnt, evS_pass, evS_rai, evSs_nil, evSs_cons, forR_seq, forR_tup, forR_str, prim1_add, prim2_add, prim3_add, prim4_sub, prim5_mul, prim6_mul, prim7_mul, prim8_fdiv, prim9_mod, prim10_pow, prim11_neg, prim12_eq, prim13_ne, prim14_lt, prim15_le, prim16_gt, prim17_ge, prim18_lt, prim19_le, prim20_gt, prim21_ge, prim22_isin, prim23_notin, prim24_isin, prim25_isin, prim26_notin, prim27_notin, prim28_isN, prim29_notN, prim30_isB, prim31_notB, prim32_ix, prim33_ix, prim34_ix, prim35_tup, prim36_lst, prim37_len, prim38_len, prim39_len, prim40_abs, prim41_int, prim42_int, prim43_int, prim44_ord, prim45_str, prim46_repr, prim47_list, prim48_list, prim49_sum, prim50_any, prim51_all, Pr.need, isEmpty_snoc, Res.bind_ok, Res.bind_bad, Res.bind_exc, SR.of_ok, SR.of_bad, SR.of_exc, SR.then_nx, SR.then_ret, SR.then_brk, SR.then_cnt, SR.then_exc, SR.then_bad, SR.ofO_some, SR.ofO_none, toV_ok, toB_ok, toI_ok, Out.d_val, Out.d_own, putOut_val, putOut_tup, put_nm', put_own', put_tup, putL_nil, putL_cons, free_no, free_val, free_own, free_ro, free_st, free_bor, free_err, rdS_err, evE_isi, isiS_err, evE_callx, pickK_some, evP_isi, evP_callx, evE_truth_isi, evE_truth_callx, evS_wipe, evS_tryc, tryK_exc, tryK_nx, tryK_ret, tryK_brk, tryK_cnt, evHs_cons, suK_some, suiteEnd_ret, suiteEnd_nx, dropE_some, dropS_eq, clear_nil, clear_no, clear_val, clear_own, clear_bor, clear_ro, clear_st, catchE_eq, wipeE_nil, wipeE_cons, put_tupL, evS_stx, stxK_some, setIx_eq, setS_own, setS_bor, popK_own, popK_bor, foOut_val, foOut_own, foOut_exc, recv_scount, recv_sfind, recv_sindex, recv_lcount, methF_scount, methF_sfind, methF_sindex, methF_lcount, prim_inR, evS_augx, augK_some, augG_some, augP_some, getIx_eq, gxS_own, gxS_bor, Option.bind_some, Option.bind_none, hf, call__law_number, hn, forR_rng1, hs, h', cellF, hs3]
    · have h0 : 0 ≤ numF n := by unfold numF; split <;> omega
      have g1 := Int.fmod_nonneg_of_pos (numF n * 48271 + 11) (show (0 : Int) < 2147483647 by decide)
      have g2 := Int.fmod_lt_of_pos (numF n * 48271 + 11) (show (0 : Int) < 2147483647 by decide)
      have m1 : mulOk (numF n) 48271 = true := mulOk_small (by omega) (by decide)
      have m2 : mulOk ((numF n * 48271 + 11).fmod 2147483647) 69621 = true := mulOk_small (by omega) (by decide)
      have hl : s.length + 3 ≤ SZ := by omega
      have sz3 : 3 ≤ SZ := by decide
      simp [turnF, bd__law_draws_2, at0, atS, ofOut_some, ofOut_none, rdOp_eq, rdS_val, rdS_own, rdS_bor, rdS_ro, rdS_st, vS_val, vS_own, mvS_val, mvS_own, evE_v, evE_mv, evE_k, evE_g, evE_pr, primR_some, evO_nil, evO_cons', evP_rd, evP_v, evP_mv, evP_k, evP_g, evP_pr, evP_chain, evP_and, evP_or, evP_not, evP_ite, evP_slc, evP_meth, evP_call, evP_mu, evP_comp, opds_nil, opds_cons, cons2_some, get_dv, get_sl, getS_own0, getS_own1, getS_bor0, getS_bor1, getS_ro0, getS_ro1, getS_st0, stays_nilR, stays_consR, stay_dv, stay_sl, stS_ro, stS_st, evE_chain, chainR_bl, evE_and, evE_or, evE_not, evE_ite, evE_truth_rd, evE_truth_v, evE_truth_mv, evE_truth_k, evE_truth_g, evE_truth_pr, evE_truth_chain, evE_truth_and, evE_truth_or, evE_truth_not, evE_truth_ite, evE_truth_slc, evE_truth_meth, evE_truth_call, evE_truth_mu, evE_truth_comp, truO_some, truB_some, truD_non, truD_bl, truD_int, truD_str, truD_lst, truD_tup, evE_slc', evB_none, evB_some, slcR_some, slcF_lst, slcF_str, evE_meth', methR_some, recv_index, recv_split, recv_join, methF_index, methF_split, methF_join, evE_call, evE_mu, gSl_own, gSl_bor, muS_lst, muR_eq, muV_lst, muT_some, okE_some, sSl_own, sSl_bor, muL_append, muL_extend, muL_pop, muL_reverse, evE_comp, evC_none, evC_some, evS_set, evS_par, valK_some, valsOf_nil, valsOf_cons, parPut_nil, parPut_cons, evS_aug, augS_val, augT_val, evS_ex, evS_ret, evS_retN, evS_if, evS_for, evS_whl', evS_brk, evS_cnt, evS_pass, evS_rai, evSs_nil, evSs_cons, forR_seq, forR_tup, forR_str, prim1_add, prim2_add, prim3_add, prim4_sub, prim5_mul, prim6_mul, prim7_mul, prim8_fdiv, prim9_mod, prim10_pow, prim11_neg, prim12_eq, prim13_ne, prim14_lt, prim15_le, prim16_gt, prim17_ge, prim18_lt, prim19_le, prim20_gt, prim21_ge, prim22_isin, prim23_notin, prim24_isin, prim25_isin, prim26_notin, prim27_notin, prim28_isN, prim29_notN, prim30_isB, prim31_notB, prim32_ix, prim33_ix, prim34_ix, prim35_tup, prim36_lst, prim37_len, prim38_len, prim39_len, prim40_abs, prim41_int, prim42_int, prim43_int, prim44_ord, prim45_str, prim46_repr, prim47_list, prim48_list, prim49_sum, prim50_any, prim51_all, Pr.need, isEmpty_snoc, Res.bind_ok, Res.bind_bad, Res.bind_exc, SR.of_ok, SR.of_bad, SR.of_exc, SR.then_nx, SR.then_ret, SR.then_brk, SR.then_cnt, SR.then_exc, SR.then_bad, SR.ofO_some, SR.ofO_none, toV_ok, toB_ok, toI_ok, Out.d_val, Out.d_own, putOut_val, putOut_tup, put_nm', put_own', put_tup, putL_nil, putL_cons, free_no, free_val, free_own, free_ro, free_st, free_bor, free_err, rdS_err, evE_isi, isiS_err, evE_callx, pickK_some, evP_isi, evP_callx, evE_truth_isi, evE_truth_callx, evS_wipe, evS_tryc, tryK_exc, tryK_nx, tryK_ret, tryK_brk, tryK_cnt, evHs_cons, suK_some, suiteEnd_ret, suiteEnd_nx, dropE_some, dropS_eq, clear_nil, clear_no, clear_val, clear_own, clear_bor, clear_ro, clear_st, catchE_eq, wipeE_nil, wipeE_cons, put_tupL, evS_stx, stxK_some, setIx_eq, setS_own, setS_bor, popK_own, popK_bor, foOut_val, foOut_own, foOut_exc, recv_scount, recv_sfind, recv_sindex, recv_lcount, methF_scount, methF_sfind, methF_sindex, methF_lcount, prim_inR, evS_augx, augK_some, augG_some, augP_some, getIx_eq, gxS_own, gxS_bor, Option.bind_some, Option.bind_none, hf, call__law_number, hn, m1, m2, hl, sz3, cellF]
theorem sem__law_draws (hf : Γ[fp]? = some f__law_number) : ∀ ds r, f__law_draws.mf ds = some r → runDef Γ G N__law_draws f__law_draws.modes (ss__law_draws fp) ds = some r := by
  intro ds r h
  simp only [f__law_draws] at h
  split at h
  · rename_i xs
    split at h
    · rename_i ns h1
      split at h
      · rename_i hl
        cases h
        have e := intsD_inv h1
        subst e
        have hc := cell_loop (Γ := Γ) (G := G) (d0 := .st (.lst (ns.map .int))) (a := []) (ns := ns) hf (by have : SZ = 16777216 := rfl; simp; omega)
        simp at hc
        have sz0 : 0 ≤ SZ := by decide
        simp [runDef, leave, backs, enter, f__law_draws, N__law_draws, ss__law_draws, at0, atS, ofOut_some, ofOut_none, rdOp_eq, rdS_val, rdS_own, rdS_bor, rdS_ro, rdS_st, vS_val, vS_own, mvS_val, mvS_own, evE_v, evE_mv, evE_k, evE_g, evE_pr, primR_some, evO_nil, evO_cons', evP_rd, evP_v, evP_mv, evP_k, evP_g, evP_pr, evP_chain, evP_and, evP_or, evP_not, evP_ite, evP_slc, evP_meth, evP_call, evP_mu, evP_comp, opds_nil, opds_cons, cons2_some, get_dv, get_sl, getS_own0, getS_own1, getS_bor0, getS_bor1, getS_ro0, getS_ro1, getS_st0, stays_nilR, stays_consR, stay_dv, stay_sl, stS_ro, stS_st, evE_chain, chainR_bl, evE_and, evE_or, evE_not, evE_ite, evE_truth_rd, evE_truth_v, evE_truth_mv, evE_truth_k, evE_truth_g, evE_truth_pr, evE_truth_chain, evE_truth_and, evE_truth_or, evE_truth_not, evE_truth_ite, evE_truth_slc, evE_truth_meth, evE_truth_call, evE_truth_mu, evE_truth_comp, truO_some, truB_some, truD_non, truD_bl, truD_int, truD_str, truD_lst, truD_tup, evE_slc', evB_none, evB_some, slcR_some, slcF_lst, slcF_str, evE_meth', methR_some, recv_index, recv_split, recv_join, methF_index, methF_split, methF_join, evE_call, evE_mu, gSl_own, gSl_bor, muS_lst, muR_eq, muV_lst, muT_some, okE_some, sSl_own, sSl_bor, muL_append, muL_extend, muL_pop, muL_reverse, evE_comp, evC_none, evC_some, evS_set, evS_par, valK_some, valsOf_nil, valsOf_cons, parPut_nil, parPut_cons, evS_aug, augS_val, augT_val, evS_ex, evS_ret, evS_retN, evS_if, evS_for, evS_whl', evS_brk, evS_cnt, evS_pass, evS_rai, evSs_nil, evSs_cons, forR_seq, forR_tup, forR_str, prim1_add, prim2_add, prim3_add, prim4_sub, prim5_mul, prim6_mul, prim7_mul, prim8_fdiv, prim9_mod, prim10_pow, prim11_neg, prim12_eq, prim13_ne, prim14_lt, prim15_le, prim16_gt, prim17_ge, prim18_lt, prim19_le, prim20_gt, prim21_ge, prim22_isin, prim23_notin, prim24_isin, prim25_isin, prim26_notin, prim27_notin, prim28_isN, prim29_notN, prim30_isB, prim31_notB, prim32_ix, prim33_ix, prim34_ix, prim35_tup, prim36_lst, prim37_len, prim38_len, prim39_len, prim40_abs, prim41_int, prim42_int, prim43_int, prim44_ord, prim45_str, prim46_repr, prim47_list, prim48_list, prim49_sum, prim50_any, prim51_all, Pr.need, isEmpty_snoc, Res.bind_ok, Res.bind_bad, Res.bind_exc, SR.of_ok, SR.of_bad, SR.of_exc, SR.then_nx, SR.then_ret, SR.then_brk, SR.then_cnt, SR.then_exc, SR.then_bad, SR.ofO_some, SR.ofO_none, toV_ok, toB_ok, toI_ok, Out.d_val, Out.d_own, putOut_val, putOut_tup, put_nm', put_own', put_tup, putL_nil, putL_cons, free_no, free_val, free_own, free_ro, free_st, free_bor, free_err, rdS_err, evE_isi, isiS_err, evE_callx, pickK_some, evP_isi, evP_callx, evE_truth_isi, evE_truth_callx, evS_wipe, evS_tryc, tryK_exc, tryK_nx, tryK_ret, tryK_brk, tryK_cnt, evHs_cons, suK_some, suiteEnd_ret, suiteEnd_nx, dropE_some, dropS_eq, clear_nil, clear_no, clear_val, clear_own, clear_bor, clear_ro, clear_st, catchE_eq, wipeE_nil, wipeE_cons, put_tupL, evS_stx, stxK_some, setIx_eq, setS_own, setS_bor, popK_own, popK_bor, foOut_val, foOut_own, foOut_exc, recv_scount, recv_sfind, recv_sindex, recv_lcount, methF_scount, methF_sfind, methF_sindex, methF_lcount, prim_inR, evS_augx, augK_some, augG_some, augP_some, getIx_eq, gxS_own, gxS_bor, Option.bind_some, Option.bind_none, hc]
      · cases h
    · cases h
  · cases h
end
def drK (s : Sl) (e : Ev) : Res Out := match s with
  | .st (.lst xs) => (match intsD xs with
    | some ns => if ns.length ≤ 63 then .ok (.own (.lst ((drawsF ns).map .int))) e else .bad
    | none => .bad)
  | _ => .bad
theorem drK_st (ns : List Int) (e : Ev) : drK (.st (.lst (ns.map .int))) e = if ns.length ≤ 63 then .ok (.own (.lst ((drawsF ns).map .int))) e else .bad := by
  simp [drK, intsD_map]
theorem call__law_draws (i : Nat) (e : Ev) : callR (some f__law_draws) [.sl i] e = drK (e.at i) e := by
  have go : ∀ s, e.at i = s → callR (some f__law_draws) [.sl i] e = drK s e := by
    intro s hs
    cases s with
    | st d =>
      cases d <;> first
        | (simp [callR, f__law_draws, argsGet, argGet, hs, apart, drK]; done)
        | skip
      rename_i xs
      simp only [drK]
      cases hx : intsD xs with
      | none => simp [callR, f__law_draws, argsGet, argGet, hs, apart, hx]
      | some ns =>
        by_cases hl : ns.length ≤ 63
        · simp [callR, argsGet, argGet, apart, bors, lsl, putBack, foOut, f__law_draws, hs, hx, hl]
        · simp [callR, f__law_draws, argsGet, argGet, hs, apart, hx, hl]
    | _ => simp [callR, f__law_draws, argsGet, argGet, hs, drK]
  exact go _ rfl
end Gc

set_option Elab.async false
set_option linter.all false
set_option maxRecDepth 100000
namespace Gc
open Mini
/-! values that repr can show -/
def okI (d : D) : Prop := shows d = true ∧ plain 59 d = true ∧ rsz d ≤ 100000
theorem okI_str {s : List Nat} (h : s.length ≤ 1000) : okI (.str s) := ⟨rfl, rfl, by simp [rsz]; omega⟩
theorem okI_non : okI .non := ⟨rfl, rfl, by simp [rsz]⟩
theorem okI_bl (b : Bool) : okI (.bl b) := ⟨rfl, rfl, by simp [rsz]⟩
theorem okI_lst {ds : List D} (h : ∀ d ∈ ds, okI d) (hl : ds.length ≤ 100) : shows (.lst ds) = true ∧ plain 60 (.lst ds) = true ∧ decide (rsz (.lst ds) ≤ SZ) = true := by
  have key : ∀ ds : List D, (∀ d ∈ ds, okI d) → showsL ds = true ∧ plainL 59 ds = true ∧ rszL ds ≤ 100002 * ds.length := by
    intro ds
    induction ds with
    | nil => intro _; exact ⟨rfl, rfl, by simp [rszL]⟩
    | cons d ds ih =>
      intro h
      obtain ⟨i1, i2, i3⟩ := ih fun x hx => h x (List.mem_cons_of_mem _ hx)
      obtain ⟨k1, k2, k3⟩ := h d List.mem_cons_self
      refine ⟨by simp [showsL, i1, k1], by simp [plainL, i2, k2], ?_⟩
      simp only [rszL, List.length_cons]
      omega
  obtain ⟨k1, k2, k3⟩ := key ds h
  refine ⟨k1, k2, decide_eq_true ?_⟩
  show rszL ds + 3 ≤ SZ
  have : SZ = 16777216 := rfl
  omega
/-- numbers that a script can draw here -/
theorem log2_lt {n k : Nat} (hk : 0 < k) (h : n < 2 ^ k) : n.log2 < k := log2_small hk h
/-- repr shows it -/
def rok (d : D) : Bool := shows d && plain 60 d && decide (rsz d ≤ SZ)
theorem prim_repr (d : D) : prim .repr [d] = if rok d then some (.val (.str (reprD d))) else none := by rfl
theorem rok_lst {ds : List D} (h : ∀ d ∈ ds, okI d) (hl : ds.length ≤ 100) : rok (.lst ds) = true := by
  obtain ⟨h1, h2, h3⟩ := okI_lst h hl
  simp only [rok, h1, h2, h3, Bool.and_self]
/-- the law: what a script of ints gives -/
def lawFn : Fn := ⟨[.st], [], fun ds => match ds with
  | [.lst xs] => match intsD xs with
    | some ns => if ns.length ≤ 63 then some ⟨.val (.bl true), []⟩ else none
    | none => none
  | _ => none⟩
theorem rev_ints (l : List Int) : (l.map D.int).reverse = l.reverse.map D.int := by rw [List.map_reverse]
/-- a def of the script alone -/
theorem law_sem {Γ : List Fn} {G : List D} {n : Nat} {ss : List S} (h : ∀ ns : List Int, ns.length ≤ 63 → ∃ e, evSs Γ G ss (enter n [.st] [.lst (ns.map .int)]) = .ret (.val (.bl true)) e) : ∀ ds r, lawFn.mf ds = some r → runDef Γ G n lawFn.modes ss ds = some r := by
  intro ds r hr
  simp only [lawFn] at hr
  split at hr
  · split at hr
    · rename_i ns hx
      split at hr
      · rename_i hl
        cases hr
        rw [intsD_inv hx]
        obtain ⟨e, he⟩ := h ns hl
        unfold runDef
        rw [if_pos (by rfl)]
        show leave [.st] (evSs Γ G ss (enter n [.st] [.lst (ns.map .int)])) = _
        rw [he]
        rfl
      · cases hr
    · cases hr
  · cases hr
/-- a text run in two parts -/
theorem run_two {Γ : List Fn} {G : List D} {ss : List S} {e e1 : Ev} (k : Nat) (h : evSs Γ G (ss.take k) e = .nx e1) : evSs Γ G ss e = evSs Γ G (ss.drop k) e1 := by
  have := evSs_append (Γ := Γ) (G := G) (ss.take k) (ss.drop k) e
  rw [List.take_append_drop, h, SR.then_nx] at this
  exact this
end Gc

set_option Elab.async false
set_option linter.all false
set_option maxRecDepth 100000
namespace Gw
open Mini
/-! ### is_kinds: 0 kinds, 1 kind -/
def N_is_kinds : Nat := 2
def ss_is_kinds (g_LETTERS : Nat) : List S :=
  [.ret (.and (.chain .le .le (.k (.int 1)) (.pr .len [(.rd 0)]) (.pr .len [(.g g_LETTERS)])) (.pr .all [(.comp [1] (.nm 1) .seq [(.v 0)] none (.pr .isin [(.rd 1), (.pr .tup [(.k (.int 2)), (.k (.int 3))])]))]))]
/-! ### check_kinds: 0 kinds -/
def N_check_kinds : Nat := 1
def ss_check_kinds (c_NotKinds : Nat) (f_is_kinds : Nat) : List S :=
  [.if_ (.not (.truth (.call f_is_kinds [(.v 0)])))
    [.rai c_NotKinds]
    []]
/-! ### is_allowed: 0 size, 1 width -/
def N_is_allowed : Nat := 2
def ss_is_allowed (g_MOST_OPEN : Nat) (g_MOST_LETTERS : Nat) : List S :=
  [.ret (.and (.chain .le .le (.k (.int 0)) (.v 0) (.g g_MOST_LETTERS)) (.chain .le .le (.k (.int 1)) (.v 1) (.g g_MOST_OPEN)))]
/-! ### end_of: 0 kinds, 1 tree, 2 begin, 3 wanted, 4 index, 5 sign -/
def N_end_of : Nat := 6
def bd_end_of_1 (g_LETTERS : Nat) (g_OPEN : Nat) : List S :=
  [.set (.nm 5) (.pr .ix [(.rd 1), (.rd 4)]),
  .if_ (.pr .eq [(.rd 5), (.g g_OPEN)])
    [.aug 3 .sub (.k (.int 1))]
    [.if_ (.pr .inR [(.meth .sfind (.g g_LETTERS) [(.rd 5)]), (.pr .len [(.rd 0)])])
      [.aug 3 .add (.pr .sub [(.pr .ix [(.rd 0), (.meth .sindex (.g g_LETTERS) [(.rd 5)])]), (.k (.int 1))])]
      [.ret (.k .non)]],
  .if_ (.pr .eq [(.rd 3), (.k (.int 0))])
    [.ret (.pr .add [(.rd 4), (.k (.int 1))])]
    [],
  .wipe [4, 5]]
def ss_end_of (g_LETTERS : Nat) (g_OPEN : Nat) : List S :=
  [.set (.nm 3) (.k (.int 1)),
  .wipe [5],
  .for_ (.nm 4) .rng2 [(.v 2), (.pr .len [(.rd 1)])] (bd_end_of_1 g_LETTERS g_OPEN),
  .wipe [3],
  .ret (.k .non)]
/-! ### size_of: 0 tree -/
def N_size_of : Nat := 1
def ss_size_of (g_OPEN : Nat) : List S :=
  [.ret (.pr .sub [(.pr .len [(.rd 0)]), (.meth .scount (.rd 0) [(.g g_OPEN)])])]
/-! ### is_tree: 0 kinds, 1 tree -/
def N_is_tree : Nat := 2
def ss_is_tree (f_check_kinds : Nat) (f_is_allowed : Nat) (f_size_of : Nat) (g_OPEN : Nat) (f_end_of : Nat) : List S :=
  [.ex (.call f_check_kinds [(.v 0)]),
  .ret (.and (.pr .eq [(.call f_end_of [(.v 0), (.v 1), (.k (.int 0))]), (.pr .len [(.rd 1)])]) (.call f_is_allowed [(.call f_size_of [(.v 1)]), (.meth .scount (.rd 1) [(.g g_OPEN)])]))]
/-! ### check_tree: 0 kinds, 1 tree -/
def N_check_tree : Nat := 2
def ss_check_tree (c_NotTree : Nat) (f_is_tree : Nat) : List S :=
  [.if_ (.not (.truth (.call f_is_tree [(.v 0), (.v 1)])))
    [.rai c_NotTree]
    []]
/-! ### size: 0 kinds, 1 tree -/
def N_size : Nat := 2
def ss_size (f_check_tree : Nat) (f_size_of : Nat) : List S :=
  [.ex (.call f_check_tree [(.v 0), (.v 1)]),
  .ret (.call f_size_of [(.v 1)])]
/-! ### width: 0 kinds, 1 tree -/
def N_width : Nat := 2
def ss_width (f_check_tree : Nat) (g_OPEN : Nat) : List S :=
  [.ex (.call f_check_tree [(.v 0), (.v 1)]),
  .ret (.meth .scount (.rd 1) [(.g g_OPEN)])]
end Gw

set_option Elab.async false
set_option linter.all false
set_option maxRecDepth 100000
namespace Gw
open Mini Gc
/-! trees.py, as plain functions -/
def abc : List Nat := [97, 98, 99]
def kD (K : List Int) : D := .tup (K.map .int)
def isK (K : List Int) : Bool := decide (1 ≤ K.length) && decide (K.length ≤ 3) && K.all fun k => k == 2 || k == 3
theorem prim_isin2 (k : Int) : prim .isin [.int k, .tup [.int 2, .int 3]] = some (.val (.bl (k == 2 || k == 3))) := by
  rw [prim25_isin]
  simp [flat, deq, Bool.beq_comm]
def f_is_kinds : Fn := ⟨[.val], [], fun ds => match ds with
  | [.tup xs] => (match intsD xs with
    | some K => if K.length ≤ 1000 then some ⟨.val (.bl (isK K)), []⟩ else none
    | none => none)
  | _ => none⟩
theorem fin2v {a : D} {ss : List S} {Γ : List Fn} {G : List D} {r : SR} {x : Option FRes} (h : evSs Γ G ss [.val a, .no] = r) (hr : leave [.val] r = x) : runDef Γ G 2 [.val] ss [a] = x := by
  unfold runDef
  rw [if_pos (by rfl)]
  show leave _ (evSs Γ G ss [.val a, .no]) = _
  rw [h, hr]
theorem sem_is_kinds {Γ : List Fn} {G : List D} {g : Nat} (hg : G[g]? = some (.str abc)) : ∀ ds r, f_is_kinds.mf ds = some r → runDef Γ G N_is_kinds f_is_kinds.modes (ss_is_kinds g) ds = some r := by
  intro ds r h
  simp only [f_is_kinds] at h
  split at h
  · split at h
    · rename_i K hK
      split at h
      · rename_i hl
        cases h
        rw [intsD_inv hK]
        have s2 : 2 ≤ SZ := by decide
        have key := compX (own := [1]) (pat := .nm 1) (it := .seq) (Γ := Γ) (G := G) (elt := evE Γ G (.pr .isin [(.rd 1), (.pr .tup [(.k (.int 2)), (.k (.int 3))])])) (ds := [.tup (K.map .int)]) (fun (k : Int) => D.int k) (fun k => .bl (k == 2 || k == 3))
          (fun k => [.val (.tup (K.map .int)), .val (.int k)]) (xs := K) (E := [.val (.tup (K.map .int)), .no]) rfl (by have : SZ = 16777216 := rfl; omega) rfl
          (fun k => rfl) (fun k _ => rfl) (fun k _ => ⟨.val (.bl (k == 2 || k == 3)), by
            have p := prim_isin2 k
            generalize K.map D.int = l at *
            simp only [evE_pr, evE_k, evO_cons', evO_nil, evP_rd, evP_pr, evP_k, rdOp_eq, atS, at0, rdS_val, Res.bind_ok, primR_some, opds_cons, opds_nil, get_dv, cons2_some, Pr.need, prim35_tup, toV_ok, Out.d_val, ofOut_some, List.length_cons, List.length_nil, s2, if_true, p], rfl⟩)
        have e1 : (K.map fun k => D.bl (k == 2 || k == 3)) = (K.map fun k => k == 2 || k == 3).map D.bl := by rw [List.map_map]; rfl
        rw [e1] at key
        have pa := prim51_all (K.map fun k => k == 2 || k == 3)
        have e2 : (K.map fun k => k == 2 || k == 3).all id = K.all fun k => k == 2 || k == 3 := by rw [List.all_map]; rfl
        rw [e2] at pa
        have hlen : (K.map D.int).length = K.length := by simp
        refine fin2v (r := .ret (.val (.bl (isK K))) [.val (.tup (K.map .int)), .no]) ?_ rfl
        have d1 : decide ((1 : Int) ≤ (K.length : Int)) = decide (1 ≤ K.length) := by rw [Bool.eq_iff_iff]; simp; omega
        have d2 : decide ((K.length : Int) ≤ 3) = decide (K.length ≤ 3) := by rw [Bool.eq_iff_iff]; simp; omega
        unfold isK
        generalize (K.map fun k => k == 2 || k == 3).map D.bl = l2 at *
        generalize K.map D.int = l at *
        generalize (K.all fun k => k == 2 || k == 3) = b at *
        generalize K.length = n at *
        cases h1 : decide (1 ≤ n) <;> cases h2 : decide (n ≤ 3) <;>
        simp -implicitDefEqProofs [-decide_eq_true_eq, -decide_eq_false_iff_not, ss_is_kinds, at0, atS, ofOut_some, ofOut_none, rdOp_eq, rdS_val, rdS_own, rdS_bor, rdS_ro, rdS_st, vS_val, vS_own, mvS_val, mvS_own, evE_v, evE_mv, evE_k, evE_g, evE_pr, primR_some, evO_nil, evO_cons', evP_rd, evP_v, evP_mv, evP_k, evP_g, evP_pr, evP_chain, evP_and, evP_or, evP_not, evP_ite, evP_slc, evP_meth, evP_call, evP_mu, evP_comp, opds_nil, opds_cons, cons2_some, get_dv, get_sl, getS_own0, getS_own1, getS_bor0, getS_bor1, getS_ro0, getS_ro1, getS_st0, stays_nilR, stays_consR, stay_dv, stay_sl, stS_ro, stS_st, evE_chain, chainR_bl, evE_and, evE_or, evE_not, evE_ite, evE_truth_rd, evE_truth_v, evE_truth_mv, evE_truth_k, evE_truth_g, evE_truth_pr, evE_truth_chain, evE_truth_and, evE_truth_or, evE_truth_not, evE_truth_ite, evE_truth_slc, evE_truth_meth, evE_truth_call, evE_truth_mu, evE_truth_comp, truO_some, truB_some, truD_non, truD_bl, truD_int, truD_str, truD_lst, truD_tup, evE_slc', evB_none, evB_some, slcR_some, slcF_lst, slcF_str, evE_meth', methR_some, recv_index, recv_split, recv_join, methF_index, methF_split, methF_join, evE_call, evE_mu, gSl_own, gSl_bor, muS_lst, muR_eq, muV_lst, muT_some, okE_some, sSl_own, sSl_bor, muL_append, muL_extend, muL_pop, muL_reverse, evE_comp, evC_none, evC_some, evS_set, evS_par, valK_some, valsOf_nil, valsOf_cons, parPut_nil, parPut_cons, evS_aug, augS_val, augT_val, evS_ex, evS_ret, evS_retN, evS_if, evS_for, evS_whl', evS_brk, evS_cnt, evS_pass, evS_rai, evSs_nil, evSs_cons, forR_seq, forR_tup, forR_str, prim1_add, prim2_add, prim3_add, prim4_sub, prim5_mul, prim6_mul, prim7_mul, prim8_fdiv, prim9_mod, prim10_pow, prim11_neg, prim12_eq, prim13_ne, prim14_lt, prim15_le, prim16_gt, prim17_ge, prim18_lt, prim19_le, prim20_gt, prim21_ge, prim22_isin, prim23_notin, prim24_isin, prim25_isin, prim26_notin, prim27_notin, prim28_isN, prim29_notN, prim30_isB, prim31_notB, prim32_ix, prim33_ix, prim34_ix, prim35_tup, prim36_lst, prim37_len, prim38_len, prim39_len, prim40_abs, prim41_int, prim42_int, prim43_int, prim44_ord, prim45_str, prim_repr, prim47_list, prim48_list, prim49_sum, prim50_any, prim51_all, Pr.need, isEmpty_snoc, Res.bind_ok, Res.bind_bad, Res.bind_exc, SR.of_ok, SR.of_bad, SR.of_exc, SR.then_nx, SR.then_ret, SR.then_brk, SR.then_cnt, SR.then_exc, SR.then_bad, SR.ofO_some, SR.ofO_none, toV_ok, toB_ok, toI_ok, Out.d_val, Out.d_own, putOut_val, putOut_tup, put_nm', put_own', put_tup, putL_nil, putL_cons, free_no, free_val, free_own, free_ro, free_st, free_bor, free_err, rdS_err, evE_isi, isiS_err, evE_callx, pickK_some, evP_isi, evP_callx, evE_truth_isi, evE_truth_callx, evS_wipe, evS_tryc, tryK_exc, tryK_nx, tryK_ret, tryK_brk, tryK_cnt, evHs_cons, suK_some, suiteEnd_ret, suiteEnd_nx, dropE_some, dropS_eq, clear_nil, clear_no, clear_val, clear_own, clear_bor, clear_ro, clear_st, catchE_eq, wipeE_nil, wipeE_cons, put_tupL, evS_stx, stxK_some, setIx_eq, setS_own, setS_bor, popK_own, popK_bor, foOut_val, foOut_own, foOut_exc, recv_scount, recv_sfind, recv_sindex, recv_lcount, methF_scount, methF_sfind, methF_sindex, methF_lcount, prim_inR, evS_augx, augK_some, augG_some, augP_some, getIx_eq, gxS_own, gxS_bor, Option.bind_some, Option.bind_none, hg, abc, hlen, key, pa, d1, d2, h1, h2]
      · cases h
    · cases h
  · cases h
theorem call_is_kinds {K : List Int} {e : Ev} (h : K.length ≤ 1000) : callR (some f_is_kinds) [.dv (kD K)] e = .ok (.val (.bl (isK K))) e := by
  simp [callR, argsGet, argGet, apart, bors, lsl, putBack, foOut, f_is_kinds, kD, intsD_map, h]
def f_check_kinds (c : Nat) : Fn := ⟨[.val], [], fun ds => match ds with
  | [.tup xs] => (match intsD xs with
    | some K => if K.length ≤ 1000 then some ⟨if isK K then .val .non else .exc ⟨c, []⟩, []⟩ else none
    | none => none)
  | _ => none⟩
theorem sem_check_kinds {Γ : List Fn} {G : List D} {c f : Nat} (hf : Γ[f]? = some f_is_kinds) : ∀ ds r, (f_check_kinds c).mf ds = some r → runDef Γ G N_check_kinds (f_check_kinds c).modes (ss_check_kinds c f) ds = some r := by
  intro ds r h
  simp only [f_check_kinds] at h
  split at h
  · split at h
    · rename_i K hK
      split at h
      · rename_i hl
        cases h
        rw [intsD_inv hK]
        have c1 := fun e => call_is_kinds (K := K) (e := e) hl
        unfold kD at c1
        cases hk : isK K <;>
        simp [runDef, leave, backs, enter, f_check_kinds, N_check_kinds, ss_check_kinds, at0, atS, ofOut_some, ofOut_none, rdOp_eq, rdS_val, rdS_own, rdS_bor, rdS_ro, rdS_st, vS_val, vS_own, mvS_val, mvS_own, evE_v, evE_mv, evE_k, evE_g, evE_pr, primR_some, evO_nil, evO_cons', evP_rd, evP_v, evP_mv, evP_k, evP_g, evP_pr, evP_chain, evP_and, evP_or, evP_not, evP_ite, evP_slc, evP_meth, evP_call, evP_mu, evP_comp, opds_nil, opds_cons, cons2_some, get_dv, get_sl, getS_own0, getS_own1, getS_bor0, getS_bor1, getS_ro0, getS_ro1, getS_st0, stays_nilR, stays_consR, stay_dv, stay_sl, stS_ro, stS_st, evE_chain, chainR_bl, evE_and, evE_or, evE_not, evE_ite, evE_truth_rd, evE_truth_v, evE_truth_mv, evE_truth_k, evE_truth_g, evE_truth_pr, evE_truth_chain, evE_truth_and, evE_truth_or, evE_truth_not, evE_truth_ite, evE_truth_slc, evE_truth_meth, evE_truth_call, evE_truth_mu, evE_truth_comp, truO_some, truB_some, truD_non, truD_bl, truD_int, truD_str, truD_lst, truD_tup, evE_slc', evB_none, evB_some, slcR_some, slcF_lst, slcF_str, evE_meth', methR_some, recv_index, recv_split, recv_join, methF_index, methF_split, methF_join, evE_call, evE_mu, gSl_own, gSl_bor, muS_lst, muR_eq, muV_lst, muT_some, okE_some, sSl_own, sSl_bor, muL_append, muL_extend, muL_pop, muL_reverse, evE_comp, evC_none, evC_some, evS_set, evS_par, valK_some, valsOf_nil, valsOf_cons, parPut_nil, parPut_cons, evS_aug, augS_val, augT_val, evS_ex, evS_ret, evS_retN, evS_if, evS_for, evS_whl', evS_brk, evS_cnt, evS_pass, evS_rai, evSs_nil, evSs_cons, forR_seq, forR_tup, forR_str, prim1_add, prim2_add, prim3_add, prim4_sub, prim5_mul, prim6_mul, prim7_mul, prim8_fdiv, prim9_mod, prim10_pow, prim11_neg, prim12_eq, prim13_ne, prim14_lt, prim15_le, prim16_gt, prim17_ge, prim18_lt, prim19_le, prim20_gt, prim21_ge, prim22_isin, prim23_notin, prim24_isin, prim25_isin, prim26_notin, prim27_notin, prim28_isN, prim29_notN, prim30_isB, prim31_notB, prim32_ix, prim33_ix, prim34_ix, prim35_tup, prim36_lst, prim37_len, prim38_len, prim39_len, prim40_abs, prim41_int, prim42_int, prim43_int, prim44_ord, prim45_str, prim_repr, prim47_list, prim48_list, prim49_sum, prim50_any, prim51_all, Pr.need, isEmpty_snoc, Res.bind_ok, Res.bind_bad, Res.bind_exc, SR.of_ok, SR.of_bad, SR.of_exc, SR.then_nx, SR.then_ret, SR.then_brk, SR.then_cnt, SR.then_exc, SR.then_bad, SR.ofO_some, SR.ofO_none, toV_ok, toB_ok, toI_ok, Out.d_val, Out.d_own, putOut_val, putOut_tup, put_nm', put_own', put_tup, putL_nil, putL_cons, free_no, free_val, free_own, free_ro, free_st, free_bor, free_err, rdS_err, evE_isi, isiS_err, evE_callx, pickK_some, evP_isi, evP_callx, evE_truth_isi, evE_truth_callx, evS_wipe, evS_tryc, tryK_exc, tryK_nx, tryK_ret, tryK_brk, tryK_cnt, evHs_cons, suK_some, suiteEnd_ret, suiteEnd_nx, dropE_some, dropS_eq, clear_nil, clear_no, clear_val, clear_own, clear_bor, clear_ro, clear_st, catchE_eq, wipeE_nil, wipeE_cons, put_tupL, evS_stx, stxK_some, setIx_eq, setS_own, setS_bor, popK_own, popK_bor, foOut_val, foOut_own, foOut_exc, recv_scount, recv_sfind, recv_sindex, recv_lcount, methF_scount, methF_sfind, methF_sindex, methF_lcount, prim_inR, evS_augx, augK_some, augG_some, augP_some, getIx_eq, gxS_own, gxS_bor, Option.bind_some, Option.bind_none, hf, c1, hk]
      · cases h
    · cases h
  · cases h
theorem call_check_kinds {c : Nat} {K : List Int} {e : Ev} (h : K.length ≤ 1000) : callR (some (f_check_kinds c)) [.dv (kD K)] e = if isK K then .ok (.val .non) e else .exc ⟨c, []⟩ e := by
  cases hk : isK K <;> simp [callR, argsGet, argGet, apart, bors, lsl, putBack, foOut, f_check_kinds, kD, intsD_map, h, hk]
/-! ### is_allowed, size_of -/
def okS (n w : Int) : Bool := decide (0 ≤ n) && decide (n ≤ 9) && (decide (1 ≤ w) && decide (w ≤ 14))
def f_is_allowed : Fn := ⟨[.val, .val], [], fun ds => match ds with
  | [.int n, .int w] => some ⟨.val (.bl (okS n w)), []⟩
  | _ => none⟩
theorem sem_is_allowed {Γ : List Fn} {G : List D} {g1 g2 : Nat} (h1 : G[g1]? = some (.int 14)) (h2 : G[g2]? = some (.int 9)) : ∀ ds r, f_is_allowed.mf ds = some r → runDef Γ G N_is_allowed f_is_allowed.modes (ss_is_allowed g1 g2) ds = some r := by
  intro ds r h
  simp only [f_is_allowed] at h
  split at h
  · rename_i n w
    cases h
    cases a1 : decide (0 ≤ n) <;> cases a2 : decide (n ≤ 9) <;> cases a3 : decide (1 ≤ w) <;> cases a4 : decide (w ≤ 14) <;>
    simp [-decide_eq_true_eq, -decide_eq_false_iff_not, runDef, leave, backs, enter, f_is_allowed, N_is_allowed, ss_is_allowed, at0, atS, ofOut_some, ofOut_none, rdOp_eq, rdS_val, rdS_own, rdS_bor, rdS_ro, rdS_st, vS_val, vS_own, mvS_val, mvS_own, evE_v, evE_mv, evE_k, evE_g, evE_pr, primR_some, evO_nil, evO_cons', evP_rd, evP_v, evP_mv, evP_k, evP_g, evP_pr, evP_chain, evP_and, evP_or, evP_not, evP_ite, evP_slc, evP_meth, evP_call, evP_mu, evP_comp, opds_nil, opds_cons, cons2_some, get_dv, get_sl, getS_own0, getS_own1, getS_bor0, getS_bor1, getS_ro0, getS_ro1, getS_st0, stays_nilR, stays_consR, stay_dv, stay_sl, stS_ro, stS_st, evE_chain, chainR_bl, evE_and, evE_or, evE_not, evE_ite, evE_truth_rd, evE_truth_v, evE_truth_mv, evE_truth_k, evE_truth_g, evE_truth_pr, evE_truth_chain, evE_truth_and, evE_truth_or, evE_truth_not, evE_truth_ite, evE_truth_slc, evE_truth_meth, evE_truth_call, evE_truth_mu, evE_truth_comp, truO_some, truB_some, truD_non, truD_bl, truD_int, truD_str, truD_lst, truD_tup, evE_slc', evB_none, evB_some, slcR_some, slcF_lst, slcF_str, evE_meth', methR_some, recv_index, recv_split, recv_join, methF_index, methF_split, methF_join, evE_call, evE_mu, gSl_own, gSl_bor, muS_lst, muR_eq, muV_lst, muT_some, okE_some, sSl_own, sSl_bor, muL_append, muL_extend, muL_pop, muL_reverse, evE_comp, evC_none, evC_some, evS_set, evS_par, valK_some, valsOf_nil, valsOf_cons, parPut_nil, parPut_cons, evS_aug, augS_val, augT_val, evS_ex, evS_ret, evS_retN, evS_if, evS_for, evS_whl', evS_brk, evS_cnt, evS_pass, evS_rai, evSs_nil, evSs_cons, forR_seq, forR_tup, forR_str, prim1_add, prim2_add, prim3_add, prim4_sub, prim5_mul, prim6_mul, prim7_mul, prim8_fdiv, prim9_mod, prim10_pow, prim11_neg, prim12_eq, prim13_ne, prim14_lt, prim15_le, prim16_gt, prim17_ge, prim18_lt, prim19_le, prim20_gt, prim21_ge, prim22_isin, prim23_notin, prim24_isin, prim25_isin, prim26_notin, prim27_notin, prim28_isN, prim29_notN, prim30_isB, prim31_notB, prim32_ix, prim33_ix, prim34_ix, prim35_tup, prim36_lst, prim37_len, prim38_len, prim39_len, prim40_abs, prim41_int, prim42_int, prim43_int, prim44_ord, prim45_str, prim_repr, prim47_list, prim48_list, prim49_sum, prim50_any, prim51_all, Pr.need, isEmpty_snoc, Res.bind_ok, Res.bind_bad, Res.bind_exc, SR.of_ok, SR.of_bad, SR.of_exc, SR.then_nx, SR.then_ret, SR.then_brk, SR.then_cnt, SR.then_exc, SR.then_bad, SR.ofO_some, SR.ofO_none, toV_ok, toB_ok, toI_ok, Out.d_val, Out.d_own, putOut_val, putOut_tup, put_nm', put_own', put_tup, putL_nil, putL_cons, free_no, free_val, free_own, free_ro, free_st, free_bor, free_err, rdS_err, evE_isi, isiS_err, evE_callx, pickK_some, evP_isi, evP_callx, evE_truth_isi, evE_truth_callx, evS_wipe, evS_tryc, tryK_exc, tryK_nx, tryK_ret, tryK_brk, tryK_cnt, evHs_cons, suK_some, suiteEnd_ret, suiteEnd_nx, dropE_some, dropS_eq, clear_nil, clear_no, clear_val, clear_own, clear_bor, clear_ro, clear_st, catchE_eq, wipeE_nil, wipeE_cons, put_tupL, evS_stx, stxK_some, setIx_eq, setS_own, setS_bor, popK_own, popK_bor, foOut_val, foOut_own, foOut_exc, recv_scount, recv_sfind, recv_sindex, recv_lcount, methF_scount, methF_sfind, methF_sindex, methF_lcount, prim_inR, evS_augx, augK_some, augG_some, augP_some, getIx_eq, gxS_own, gxS_bor, Option.bind_some, Option.bind_none, h1, h2, okS, a1, a2, a3, a4]
  · cases h
theorem call_is_allowed {n w : Int} {e : Ev} : callR (some f_is_allowed) [.dv (.int n), .dv (.int w)] e = .ok (.val (.bl (okS n w))) e := by
  simp [callR, argsGet, argGet, apart, bors, lsl, putBack, foOut, f_is_allowed]
/-- letters of a text that is a tree -/
def sizF (t : List Nat) : Int := (t.length : Int) - ((t.count 46 : Nat) : Int)
def f_size_of : Fn := ⟨[.val], [], fun ds => match ds with
  | [.str t] => some ⟨.val (.int (sizF t)), []⟩
  | _ => none⟩
theorem sem_size_of {Γ : List Fn} {G : List D} {g : Nat} (hg : G[g]? = some (.str [46])) : ∀ ds r, f_size_of.mf ds = some r → runDef Γ G N_size_of f_size_of.modes (ss_size_of g) ds = some r := by
  intro ds r h
  simp only [f_size_of] at h
  split at h
  · rename_i t
    cases h
    simp [runDef, leave, backs, enter, f_size_of, N_size_of, ss_size_of, at0, atS, ofOut_some, ofOut_none, rdOp_eq, rdS_val, rdS_own, rdS_bor, rdS_ro, rdS_st, vS_val, vS_own, mvS_val, mvS_own, evE_v, evE_mv, evE_k, evE_g, evE_pr, primR_some, evO_nil, evO_cons', evP_rd, evP_v, evP_mv, evP_k, evP_g, evP_pr, evP_chain, evP_and, evP_or, evP_not, evP_ite, evP_slc, evP_meth, evP_call, evP_mu, evP_comp, opds_nil, opds_cons, cons2_some, get_dv, get_sl, getS_own0, getS_own1, getS_bor0, getS_bor1, getS_ro0, getS_ro1, getS_st0, stays_nilR, stays_consR, stay_dv, stay_sl, stS_ro, stS_st, evE_chain, chainR_bl, evE_and, evE_or, evE_not, evE_ite, evE_truth_rd, evE_truth_v, evE_truth_mv, evE_truth_k, evE_truth_g, evE_truth_pr, evE_truth_chain, evE_truth_and, evE_truth_or, evE_truth_not, evE_truth_ite, evE_truth_slc, evE_truth_meth, evE_truth_call, evE_truth_mu, evE_truth_comp, truO_some, truB_some, truD_non, truD_bl, truD_int, truD_str, truD_lst, truD_tup, evE_slc', evB_none, evB_some, slcR_some, slcF_lst, slcF_str, evE_meth', methR_some, recv_index, recv_split, recv_join, methF_index, methF_split, methF_join, evE_call, evE_mu, gSl_own, gSl_bor, muS_lst, muR_eq, muV_lst, muT_some, okE_some, sSl_own, sSl_bor, muL_append, muL_extend, muL_pop, muL_reverse, evE_comp, evC_none, evC_some, evS_set, evS_par, valK_some, valsOf_nil, valsOf_cons, parPut_nil, parPut_cons, evS_aug, augS_val, augT_val, evS_ex, evS_ret, evS_retN, evS_if, evS_for, evS_whl', evS_brk, evS_cnt, evS_pass, evS_rai, evSs_nil, evSs_cons, forR_seq, forR_tup, forR_str, prim1_add, prim2_add, prim3_add, prim4_sub, prim5_mul, prim6_mul, prim7_mul, prim8_fdiv, prim9_mod, prim10_pow, prim11_neg, prim12_eq, prim13_ne, prim14_lt, prim15_le, prim16_gt, prim17_ge, prim18_lt, prim19_le, prim20_gt, prim21_ge, prim22_isin, prim23_notin, prim24_isin, prim25_isin, prim26_notin, prim27_notin, prim28_isN, prim29_notN, prim30_isB, prim31_notB, prim32_ix, prim33_ix, prim34_ix, prim35_tup, prim36_lst, prim37_len, prim38_len, prim39_len, prim40_abs, prim41_int, prim42_int, prim43_int, prim44_ord, prim45_str, prim_repr, prim47_list, prim48_list, prim49_sum, prim50_any, prim51_all, Pr.need, isEmpty_snoc, Res.bind_ok, Res.bind_bad, Res.bind_exc, SR.of_ok, SR.of_bad, SR.of_exc, SR.then_nx, SR.then_ret, SR.then_brk, SR.then_cnt, SR.then_exc, SR.then_bad, SR.ofO_some, SR.ofO_none, toV_ok, toB_ok, toI_ok, Out.d_val, Out.d_own, putOut_val, putOut_tup, put_nm', put_own', put_tup, putL_nil, putL_cons, free_no, free_val, free_own, free_ro, free_st, free_bor, free_err, rdS_err, evE_isi, isiS_err, evE_callx, pickK_some, evP_isi, evP_callx, evE_truth_isi, evE_truth_callx, evS_wipe, evS_tryc, tryK_exc, tryK_nx, tryK_ret, tryK_brk, tryK_cnt, evHs_cons, suK_some, suiteEnd_ret, suiteEnd_nx, dropE_some, dropS_eq, clear_nil, clear_no, clear_val, clear_own, clear_bor, clear_ro, clear_st, catchE_eq, wipeE_nil, wipeE_cons, put_tupL, evS_stx, stxK_some, setIx_eq, setS_own, setS_bor, popK_own, popK_bor, foOut_val, foOut_own, foOut_exc, recv_scount, recv_sfind, recv_sindex, recv_lcount, methF_scount, methF_sfind, methF_sindex, methF_lcount, prim_inR, evS_augx, augK_some, augG_some, augP_some, getIx_eq, gxS_own, gxS_bor, Option.bind_some, Option.bind_none, hg, sizF]
  · cases h
theorem call_size_of {t : List Nat} {e : Ev} : callR (some f_size_of) [.dv (.str t)] e = .ok (.val (.int (sizF t))) e := by
  simp [callR, argsGet, argGet, apart, bors, lsl, putBack, foOut, f_size_of]
end Gw

set_option Elab.async false
set_option linter.all false
set_option maxRecDepth 100000
namespace Gw
open Mini Gc
/-! ### end_of -/
/-- what a sign makes of the number of trees that are wanted -/
def sgW (K : List Int) (c : Nat) : Option Int := if c = 46 then some (-1) else (abc.findIdx? (· == c)).bind fun j => (K[j]?).map (· - 1)
def endG (K : List Int) : List Nat → Nat → Int → Option Nat
  | [], _, _ => none
  | c :: r, i, w => match sgW K c with
    | none => none
    | some d => if w + d = 0 then some (i + 1) else endG K r (i + 1) (w + d)
def endD (o : Option Nat) : D := match o with
  | some j => .int (j : Int)
  | none => .non
def f_end_of : Fn := ⟨[.val, .val, .val], [], fun ds => match ds with
  | [.tup xs, .str t, .int b] => (match intsD xs with
    | some K => if K.length ≤ 1000 ∧ t.length ≤ 16777216 ∧ 0 ≤ b ∧ b ≤ 16777216 then some ⟨.val (endD (endG K (t.drop b.toNat) b.toNat 1)), []⟩ else none
    | none => none)
  | _ => none⟩
theorem abc_find (c : Nat) : abc.findIdx? (· == c) = if c = 97 then some 0 else if c = 98 then some 1 else if c = 99 then some 2 else none := by
  unfold abc
  simp only [List.findIdx?_cons, List.findIdx?_nil]
  by_cases h1 : c = 97
  · subst h1; rfl
  · by_cases h2 : c = 98
    · subst h2; rfl
    · by_cases h3 : c = 99
      · subst h3; rfl
      · have e1 : ((97 : Nat) == c) = false := by rw [beq_eq_false_iff_ne]; omega
        have e2 : ((98 : Nat) == c) = false := by rw [beq_eq_false_iff_ne]; omega
        have e3 : ((99 : Nat) == c) = false := by rw [beq_eq_false_iff_ne]; omega
        simp [e1, e2, e3, h1, h2, h3]
def endStep (K : List Int) (kd : D) (t : List Nat) (b : Int) (s : Int × Ev) (p : Nat × Nat) : St1 (Int × Ev) := match sgW K p.1 with
  | none => .ret (.val .non) (0, [.val kd, .val (.str t), .val (.int b), .val (.int s.1), .val (.int (p.2 : Int)), .val (.str [p.1])])
  | some d => if s.1 + d = 0 then .ret (.val (.int ((p.2 + 1 : Nat) : Int))) (0, [.val kd, .val (.str t), .val (.int b), .val (.int (s.1 + d)), .val (.int (p.2 : Int)), .val (.str [p.1])]) else .go (s.1 + d, [])
theorem end_run (K : List Int) (kd : D) (t : List Nat) (b : Int) : ∀ (l : List Nat) (i : Nat) (s : Int × Ev), match endG K l i s.1 with
    | some j => ∃ s', St1.run (endStep K kd t b) s (l.zipIdx i) = .ret (.val (.int (j : Int))) s'
    | none => (∃ s', St1.run (endStep K kd t b) s (l.zipIdx i) = .ret (.val .non) s') ∨ ∃ s', St1.run (endStep K kd t b) s (l.zipIdx i) = .go s'
  | [], i, s => .inr ⟨s, rfl⟩
  | c :: r, i, s => by
    rw [List.zipIdx_cons]
    unfold endG St1.run
    cases h : sgW K c with
    | none =>
      simp only [endStep, h]
      exact .inl ⟨_, rfl⟩
    | some d =>
      by_cases hz : s.1 + d = 0
      · simp only [endStep, h, hz, if_true]
        exact ⟨_, rfl⟩
      · simp only [endStep, h, if_neg hz]
        exact end_run K kd t b r (i + 1) (s.1 + d, [])
theorem zip_items (l : List Nat) (b : Nat) : ((List.range l.length).map fun (k : Nat) => D.int ((b : Int) + (k : Int))) = (l.zipIdx b).map fun p => D.int (p.2 : Int) := by
  have h : (l.zipIdx b).map (fun p => D.int (p.2 : Int)) = ((l.zipIdx b).map (·.2)).map fun (k : Nat) => D.int (k : Int) := by rw [List.map_map]; rfl
  rw [h, List.zipIdx_map_snd, List.range'_eq_map_range, List.map_map]
  refine List.map_congr_left fun k _ => ?_
  simp only [Function.comp, Int.natCast_add]
section
variable {Γ : List Fn} {G : List D} {g1 g2 : Nat}
theorem end_turn (h1 : G[g1]? = some (.str abc)) (h2 : G[g2]? = some (.str [46])) {K : List Int} {t : List Nat} {b w : Int} {c i : Nat} (hc : t[i]? = some c) :
    turnF Γ G (.nm 4) (bd_end_of_1 g1 g2) (.int (i : Int)) [.val (.tup (K.map .int)), .val (.str t), .val (.int b), .val (.int w), .no, .no] =
      srT (fun s : Int × Ev => [.val (.tup (K.map .int)), .val (.str t), .val (.int b), .val (.int s.1), .no, .no]) (fun s => s.2) (fun s => s.2) (endStep K (.tup (K.map .int)) t b (w, []) (c, i)) := by
  have k1 : atI t (i : Int) = some c := Mini.atI_nat hc
  have hl : (K.map D.int).length = K.length := by simp
  by_cases h46 : c = 46
  · subst h46
    have e : sgW K 46 = some (-1) := rfl
    by_cases hw : w + -1 = 0
    · have hw1 : w - 1 = 0 := by omega
      have hw' : (w - 1 == 0) = true := by rw [beq_iff_eq]; omega
      simp -implicitDefEqProofs [-List.map_map, turnF, bd_end_of_1, at0, atS, ofOut_some, ofOut_none, rdOp_eq, rdS_val, rdS_own, rdS_bor, rdS_ro, rdS_st, vS_val, vS_own, mvS_val, mvS_own, evE_v, evE_mv, evE_k, evE_g, evE_pr, primR_some, evO_nil, evO_cons', evP_rd, evP_v, evP_mv, evP_k, evP_g, evP_pr, evP_chain, evP_and, evP_or, evP_not, evP_ite, evP_slc, evP_meth, evP_call, evP_mu, evP_comp, opds_nil, opds_cons, cons2_some, get_dv, get_sl, getS_own0, getS_own1, getS_bor0, getS_bor1, getS_ro0, getS_ro1, getS_st0, stays_nilR, stays_consR, stay_dv, stay_sl, stS_ro, stS_st, evE_chain, chainR_bl, evE_and, evE_or, evE_not, evE_ite, evE_truth_rd, evE_truth_v, evE_truth_mv, evE_truth_k, evE_truth_g, evE_truth_pr, evE_truth_chain, evE_truth_and, evE_truth_or, evE_truth_not, evE_truth_ite, evE_truth_slc, evE_truth_meth, evE_truth_call, evE_truth_mu, evE_truth_comp, truO_some, truB_some, truD_non, truD_bl, truD_int, truD_str, truD_lst, truD_tup, evE_slc', evB_none, evB_some, slcR_some, slcF_lst, slcF_str, evE_meth', methR_some, recv_index, recv_split, recv_join, methF_index, methF_split, methF_join, evE_call, evE_mu, gSl_own, gSl_bor, muS_lst, muR_eq, muV_lst, muT_some, okE_some, sSl_own, sSl_bor, muL_append, muL_extend, muL_pop, muL_reverse, evE_comp, evC_none, evC_some, evS_set, evS_par, valK_some, valsOf_nil, valsOf_cons, parPut_nil, parPut_cons, evS_aug, augS_val, augT_val, evS_ex, evS_ret, evS_retN, evS_if, evS_for, evS_whl', evS_brk, evS_cnt, evS_pass, evS_rai, evSs_nil, evSs_cons, forR_seq, forR_tup, forR_str, prim1_add, prim2_add, prim3_add, prim4_sub, prim5_mul, prim6_mul, prim7_mul, prim8_fdiv, prim9_mod, prim10_pow, prim11_neg, prim12_eq, prim13_ne, prim14_lt, prim15_le, prim16_gt, prim17_ge, prim18_lt, prim19_le, prim20_gt, prim21_ge, prim22_isin, prim23_notin, prim24_isin, prim25_isin, prim26_notin, prim27_notin, prim28_isN, prim29_notN, prim30_isB, prim31_notB, prim32_ix, prim33_ix, prim34_ix, prim35_tup, prim36_lst, prim37_len, prim38_len, prim39_len, prim40_abs, prim41_int, prim42_int, prim43_int, prim44_ord, prim45_str, prim_repr, prim47_list, prim48_list, prim49_sum, prim50_any, prim51_all, Pr.need, isEmpty_snoc, Res.bind_ok, Res.bind_bad, Res.bind_exc, SR.of_ok, SR.of_bad, SR.of_exc, SR.then_nx, SR.then_ret, SR.then_brk, SR.then_cnt, SR.then_exc, SR.then_bad, SR.ofO_some, SR.ofO_none, toV_ok, toB_ok, toI_ok, Out.d_val, Out.d_own, putOut_val, putOut_tup, put_nm', put_own', put_tup, putL_nil, putL_cons, free_no, free_val, free_own, free_ro, free_st, free_bor, free_err, rdS_err, evE_isi, isiS_err, evE_callx, pickK_some, evP_isi, evP_callx, evE_truth_isi, evE_truth_callx, evS_wipe, evS_tryc, tryK_exc, tryK_nx, tryK_ret, tryK_brk, tryK_cnt, evHs_cons, suK_some, suiteEnd_ret, suiteEnd_nx, dropE_some, dropS_eq, clear_nil, clear_no, clear_val, clear_own, clear_bor, clear_ro, clear_st, catchE_eq, wipeE_nil, wipeE_cons, put_tupL, evS_stx, stxK_some, setIx_eq, setS_own, setS_bor, popK_own, popK_bor, foOut_val, foOut_own, foOut_exc, recv_scount, recv_sfind, recv_sindex, recv_lcount, methF_scount, methF_sfind, methF_sindex, methF_lcount, prim_inR, evS_augx, augK_some, augG_some, augP_some, getIx_eq, gxS_own, gxS_bor, Option.bind_some, Option.bind_none, k1, h2, plain, deq_str, deq_int, endStep, e, hw, hw', hw1, srT]
    · have hw' : (w - 1 == 0) = false := by rw [beq_eq_false_iff_ne]; omega
      have hw2 : w - 1 = w + -1 := by omega
      rw [hw2] at hw'
      simp -implicitDefEqProofs [-List.map_map, turnF, bd_end_of_1, at0, atS, ofOut_some, ofOut_none, rdOp_eq, rdS_val, rdS_own, rdS_bor, rdS_ro, rdS_st, vS_val, vS_own, mvS_val, mvS_own, evE_v, evE_mv, evE_k, evE_g, evE_pr, primR_some, evO_nil, evO_cons', evP_rd, evP_v, evP_mv, evP_k, evP_g, evP_pr, evP_chain, evP_and, evP_or, evP_not, evP_ite, evP_slc, evP_meth, evP_call, evP_mu, evP_comp, opds_nil, opds_cons, cons2_some, get_dv, get_sl, getS_own0, getS_own1, getS_bor0, getS_bor1, getS_ro0, getS_ro1, getS_st0, stays_nilR, stays_consR, stay_dv, stay_sl, stS_ro, stS_st, evE_chain, chainR_bl, evE_and, evE_or, evE_not, evE_ite, evE_truth_rd, evE_truth_v, evE_truth_mv, evE_truth_k, evE_truth_g, evE_truth_pr, evE_truth_chain, evE_truth_and, evE_truth_or, evE_truth_not, evE_truth_ite, evE_truth_slc, evE_truth_meth, evE_truth_call, evE_truth_mu, evE_truth_comp, truO_some, truB_some, truD_non, truD_bl, truD_int, truD_str, truD_lst, truD_tup, evE_slc', evB_none, evB_some, slcR_some, slcF_lst, slcF_str, evE_meth', methR_some, recv_index, recv_split, recv_join, methF_index, methF_split, methF_join, evE_call, evE_mu, gSl_own, gSl_bor, muS_lst, muR_eq, muV_lst, muT_some, okE_some, sSl_own, sSl_bor, muL_append, muL_extend, muL_pop, muL_reverse, evE_comp, evC_none, evC_some, evS_set, evS_par, valK_some, valsOf_nil, valsOf_cons, parPut_nil, parPut_cons, evS_aug, augS_val, augT_val, evS_ex, evS_ret, evS_retN, evS_if, evS_for, evS_whl', evS_brk, evS_cnt, evS_pass, evS_rai, evSs_nil, evSs_cons, forR_seq, forR_tup, forR_str, prim1_add, prim2_add, prim3_add, prim4_sub, prim5_mul, prim6_mul, prim7_mul, prim8_fdiv, prim9_mod, prim10_pow, prim11_neg, prim12_eq, prim13_ne, prim14_lt, prim15_le, prim16_gt, prim17_ge, prim18_lt, prim19_le, prim20_gt, prim21_ge, prim22_isin, prim23_notin, prim24_isin, prim25_isin, prim26_notin, prim27_notin, prim28_isN, prim29_notN, prim30_isB, prim31_notB, prim32_ix, prim33_ix, prim34_ix, prim35_tup, prim36_lst, prim37_len, prim38_len, prim39_len, prim40_abs, prim41_int, prim42_int, prim43_int, prim44_ord, prim45_str, prim_repr, prim47_list, prim48_list, prim49_sum, prim50_any, prim51_all, Pr.need, isEmpty_snoc, Res.bind_ok, Res.bind_bad, Res.bind_exc, SR.of_ok, SR.of_bad, SR.of_exc, SR.then_nx, SR.then_ret, SR.then_brk, SR.then_cnt, SR.then_exc, SR.then_bad, SR.ofO_some, SR.ofO_none, toV_ok, toB_ok, toI_ok, Out.d_val, Out.d_own, putOut_val, putOut_tup, put_nm', put_own', put_tup, putL_nil, putL_cons, free_no, free_val, free_own, free_ro, free_st, free_bor, free_err, rdS_err, evE_isi, isiS_err, evE_callx, pickK_some, evP_isi, evP_callx, evE_truth_isi, evE_truth_callx, evS_wipe, evS_tryc, tryK_exc, tryK_nx, tryK_ret, tryK_brk, tryK_cnt, evHs_cons, suK_some, suiteEnd_ret, suiteEnd_nx, dropE_some, dropS_eq, clear_nil, clear_no, clear_val, clear_own, clear_bor, clear_ro, clear_st, catchE_eq, wipeE_nil, wipeE_cons, put_tupL, evS_stx, stxK_some, setIx_eq, setS_own, setS_bor, popK_own, popK_bor, foOut_val, foOut_own, foOut_exc, recv_scount, recv_sfind, recv_sindex, recv_lcount, methF_scount, methF_sfind, methF_sindex, methF_lcount, prim_inR, evS_augx, augK_some, augG_some, augP_some, getIx_eq, gxS_own, gxS_bor, Option.bind_some, Option.bind_none, k1, h2, plain, deq_str, deq_int, endStep, e, hw, hw', hw2, srT]
  · have hb : (c == 46) = false := by rw [beq_eq_false_iff_ne]; exact h46
    cases hf : abc.findIdx? (· == c) with
    | none =>
      have e : sgW K c = none := by unfold sgW; rw [if_neg h46, hf]; rfl
      have ef : findF abc c = -1 := by unfold findF; rw [hf]
      simp -implicitDefEqProofs [-List.map_map, turnF, bd_end_of_1, at0, atS, ofOut_some, ofOut_none, rdOp_eq, rdS_val, rdS_own, rdS_bor, rdS_ro, rdS_st, vS_val, vS_own, mvS_val, mvS_own, evE_v, evE_mv, evE_k, evE_g, evE_pr, primR_some, evO_nil, evO_cons', evP_rd, evP_v, evP_mv, evP_k, evP_g, evP_pr, evP_chain, evP_and, evP_or, evP_not, evP_ite, evP_slc, evP_meth, evP_call, evP_mu, evP_comp, opds_nil, opds_cons, cons2_some, get_dv, get_sl, getS_own0, getS_own1, getS_bor0, getS_bor1, getS_ro0, getS_ro1, getS_st0, stays_nilR, stays_consR, stay_dv, stay_sl, stS_ro, stS_st, evE_chain, chainR_bl, evE_and, evE_or, evE_not, evE_ite, evE_truth_rd, evE_truth_v, evE_truth_mv, evE_truth_k, evE_truth_g, evE_truth_pr, evE_truth_chain, evE_truth_and, evE_truth_or, evE_truth_not, evE_truth_ite, evE_truth_slc, evE_truth_meth, evE_truth_call, evE_truth_mu, evE_truth_comp, truO_some, truB_some, truD_non, truD_bl, truD_int, truD_str, truD_lst, truD_tup, evE_slc', evB_none, evB_some, slcR_some, slcF_lst, slcF_str, evE_meth', methR_some, recv_index, recv_split, recv_join, methF_index, methF_split, methF_join, evE_call, evE_mu, gSl_own, gSl_bor, muS_lst, muR_eq, muV_lst, muT_some, okE_some, sSl_own, sSl_bor, muL_append, muL_extend, muL_pop, muL_reverse, evE_comp, evC_none, evC_some, evS_set, evS_par, valK_some, valsOf_nil, valsOf_cons, parPut_nil, parPut_cons, evS_aug, augS_val, augT_val, evS_ex, evS_ret, evS_retN, evS_if, evS_for, evS_whl', evS_brk, evS_cnt, evS_pass, evS_rai, evSs_nil, evSs_cons, forR_seq, forR_tup, forR_str, prim1_add, prim2_add, prim3_add, prim4_sub, prim5_mul, prim6_mul, prim7_mul, prim8_fdiv, prim9_mod, prim10_pow, prim11_neg, prim12_eq, prim13_ne, prim14_lt, prim15_le, prim16_gt, prim17_ge, prim18_lt, prim19_le, prim20_gt, prim21_ge, prim22_isin, prim23_notin, prim24_isin, prim25_isin, prim26_notin, prim27_notin, prim28_isN, prim29_notN, prim30_isB, prim31_notB, prim32_ix, prim33_ix, prim34_ix, prim35_tup, prim36_lst, prim37_len, prim38_len, prim39_len, prim40_abs, prim41_int, prim42_int, prim43_int, prim44_ord, prim45_str, prim_repr, prim47_list, prim48_list, prim49_sum, prim50_any, prim51_all, Pr.need, isEmpty_snoc, Res.bind_ok, Res.bind_bad, Res.bind_exc, SR.of_ok, SR.of_bad, SR.of_exc, SR.then_nx, SR.then_ret, SR.then_brk, SR.then_cnt, SR.then_exc, SR.then_bad, SR.ofO_some, SR.ofO_none, toV_ok, toB_ok, toI_ok, Out.d_val, Out.d_own, putOut_val, putOut_tup, put_nm', put_own', put_tup, putL_nil, putL_cons, free_no, free_val, free_own, free_ro, free_st, free_bor, free_err, rdS_err, evE_isi, isiS_err, evE_callx, pickK_some, evP_isi, evP_callx, evE_truth_isi, evE_truth_callx, evS_wipe, evS_tryc, tryK_exc, tryK_nx, tryK_ret, tryK_brk, tryK_cnt, evHs_cons, suK_some, suiteEnd_ret, suiteEnd_nx, dropE_some, dropS_eq, clear_nil, clear_no, clear_val, clear_own, clear_bor, clear_ro, clear_st, catchE_eq, wipeE_nil, wipeE_cons, put_tupL, evS_stx, stxK_some, setIx_eq, setS_own, setS_bor, popK_own, popK_bor, foOut_val, foOut_own, foOut_exc, recv_scount, recv_sfind, recv_sindex, recv_lcount, methF_scount, methF_sfind, methF_sindex, methF_lcount, prim_inR, evS_augx, augK_some, augG_some, augP_some, getIx_eq, gxS_own, gxS_bor, Option.bind_some, Option.bind_none, k1, h1, h2, plain, deq_str, deq_int, endStep, e, hb, h46, ef, hl, srT]
    | some j =>
      have ef : findF abc c = (j : Int) := by unfold findF; rw [hf]
      cases hk : K[j]? with
      | none =>
        have e : sgW K c = none := by unfold sgW; rw [if_neg h46, hf]; simp [hk]
        have hj : ¬ j < K.length := fun z => by rw [List.getElem?_eq_getElem z] at hk; cases hk
        simp -implicitDefEqProofs [-List.map_map, turnF, bd_end_of_1, at0, atS, ofOut_some, ofOut_none, rdOp_eq, rdS_val, rdS_own, rdS_bor, rdS_ro, rdS_st, vS_val, vS_own, mvS_val, mvS_own, evE_v, evE_mv, evE_k, evE_g, evE_pr, primR_some, evO_nil, evO_cons', evP_rd, evP_v, evP_mv, evP_k, evP_g, evP_pr, evP_chain, evP_and, evP_or, evP_not, evP_ite, evP_slc, evP_meth, evP_call, evP_mu, evP_comp, opds_nil, opds_cons, cons2_some, get_dv, get_sl, getS_own0, getS_own1, getS_bor0, getS_bor1, getS_ro0, getS_ro1, getS_st0, stays_nilR, stays_consR, stay_dv, stay_sl, stS_ro, stS_st, evE_chain, chainR_bl, evE_and, evE_or, evE_not, evE_ite, evE_truth_rd, evE_truth_v, evE_truth_mv, evE_truth_k, evE_truth_g, evE_truth_pr, evE_truth_chain, evE_truth_and, evE_truth_or, evE_truth_not, evE_truth_ite, evE_truth_slc, evE_truth_meth, evE_truth_call, evE_truth_mu, evE_truth_comp, truO_some, truB_some, truD_non, truD_bl, truD_int, truD_str, truD_lst, truD_tup, evE_slc', evB_none, evB_some, slcR_some, slcF_lst, slcF_str, evE_meth', methR_some, recv_index, recv_split, recv_join, methF_index, methF_split, methF_join, evE_call, evE_mu, gSl_own, gSl_bor, muS_lst, muR_eq, muV_lst, muT_some, okE_some, sSl_own, sSl_bor, muL_append, muL_extend, muL_pop, muL_reverse, evE_comp, evC_none, evC_some, evS_set, evS_par, valK_some, valsOf_nil, valsOf_cons, parPut_nil, parPut_cons, evS_aug, augS_val, augT_val, evS_ex, evS_ret, evS_retN, evS_if, evS_for, evS_whl', evS_brk, evS_cnt, evS_pass, evS_rai, evSs_nil, evSs_cons, forR_seq, forR_tup, forR_str, prim1_add, prim2_add, prim3_add, prim4_sub, prim5_mul, prim6_mul, prim7_mul, prim8_fdiv, prim9_mod, prim10_pow, prim11_neg, prim12_eq, prim13_ne, prim14_lt, prim15_le, prim16_gt, prim17_ge, prim18_lt, prim19_le, prim20_gt, prim21_ge, prim22_isin, prim23_notin, prim24_isin, prim25_isin, prim26_notin, prim27_notin, prim28_isN, prim29_notN, prim30_isB, prim31_notB, prim32_ix, prim33_ix, prim34_ix, prim35_tup, prim36_lst, prim37_len, prim38_len, prim39_len, prim40_abs, prim41_int, prim42_int, prim43_int, prim44_ord, prim45_str, prim_repr, prim47_list, prim48_list, prim49_sum, prim50_any, prim51_all, Pr.need, isEmpty_snoc, Res.bind_ok, Res.bind_bad, Res.bind_exc, SR.of_ok, SR.of_bad, SR.of_exc, SR.then_nx, SR.then_ret, SR.then_brk, SR.then_cnt, SR.then_exc, SR.then_bad, SR.ofO_some, SR.ofO_none, toV_ok, toB_ok, toI_ok, Out.d_val, Out.d_own, putOut_val, putOut_tup, put_nm', put_own', put_tup, putL_nil, putL_cons, free_no, free_val, free_own, free_ro, free_st, free_bor, free_err, rdS_err, evE_isi, isiS_err, evE_callx, pickK_some, evP_isi, evP_callx, evE_truth_isi, evE_truth_callx, evS_wipe, evS_tryc, tryK_exc, tryK_nx, tryK_ret, tryK_brk, tryK_cnt, evHs_cons, suK_some, suiteEnd_ret, suiteEnd_nx, dropE_some, dropS_eq, clear_nil, clear_no, clear_val, clear_own, clear_bor, clear_ro, clear_st, catchE_eq, wipeE_nil, wipeE_cons, put_tupL, evS_stx, stxK_some, setIx_eq, setS_own, setS_bor, popK_own, popK_bor, foOut_val, foOut_own, foOut_exc, recv_scount, recv_sfind, recv_sindex, recv_lcount, methF_scount, methF_sfind, methF_sindex, methF_lcount, prim_inR, evS_augx, augK_some, augG_some, augP_some, getIx_eq, gxS_own, gxS_bor, Option.bind_some, Option.bind_none, k1, h1, h2, plain, deq_str, deq_int, endStep, e, hb, h46, ef, hl, hj, srT]
      | some k =>
        have e : sgW K c = some (k - 1) := by unfold sgW; rw [if_neg h46, hf]; simp [hk]
        have hj : j < K.length := (List.getElem?_eq_some_iff.mp hk).1
        have k2 : atI (K.map D.int) (j : Int) = some (.int k) := Mini.atI_nat (by rw [List.getElem?_map, hk]; rfl)
        by_cases hw : w + (k - 1) = 0
        · simp -implicitDefEqProofs [-List.map_map, turnF, bd_end_of_1, at0, atS, ofOut_some, ofOut_none, rdOp_eq, rdS_val, rdS_own, rdS_bor, rdS_ro, rdS_st, vS_val, vS_own, mvS_val, mvS_own, evE_v, evE_mv, evE_k, evE_g, evE_pr, primR_some, evO_nil, evO_cons', evP_rd, evP_v, evP_mv, evP_k, evP_g, evP_pr, evP_chain, evP_and, evP_or, evP_not, evP_ite, evP_slc, evP_meth, evP_call, evP_mu, evP_comp, opds_nil, opds_cons, cons2_some, get_dv, get_sl, getS_own0, getS_own1, getS_bor0, getS_bor1, getS_ro0, getS_ro1, getS_st0, stays_nilR, stays_consR, stay_dv, stay_sl, stS_ro, stS_st, evE_chain, chainR_bl, evE_and, evE_or, evE_not, evE_ite, evE_truth_rd, evE_truth_v, evE_truth_mv, evE_truth_k, evE_truth_g, evE_truth_pr, evE_truth_chain, evE_truth_and, evE_truth_or, evE_truth_not, evE_truth_ite, evE_truth_slc, evE_truth_meth, evE_truth_call, evE_truth_mu, evE_truth_comp, truO_some, truB_some, truD_non, truD_bl, truD_int, truD_str, truD_lst, truD_tup, evE_slc', evB_none, evB_some, slcR_some, slcF_lst, slcF_str, evE_meth', methR_some, recv_index, recv_split, recv_join, methF_index, methF_split, methF_join, evE_call, evE_mu, gSl_own, gSl_bor, muS_lst, muR_eq, muV_lst, muT_some, okE_some, sSl_own, sSl_bor, muL_append, muL_extend, muL_pop, muL_reverse, evE_comp, evC_none, evC_some, evS_set, evS_par, valK_some, valsOf_nil, valsOf_cons, parPut_nil, parPut_cons, evS_aug, augS_val, augT_val, evS_ex, evS_ret, evS_retN, evS_if, evS_for, evS_whl', evS_brk, evS_cnt, evS_pass, evS_rai, evSs_nil, evSs_cons, forR_seq, forR_tup, forR_str, prim1_add, prim2_add, prim3_add, prim4_sub, prim5_mul, prim6_mul, prim7_mul, prim8_fdiv, prim9_mod, prim10_pow, prim11_neg, prim12_eq, prim13_ne, prim14_lt, prim15_le, prim16_gt, prim17_ge, prim18_lt, prim19_le, prim20_gt, prim21_ge, prim22_isin, prim23_notin, prim24_isin, prim25_isin, prim26_notin, prim27_notin, prim28_isN, prim29_notN, prim30_isB, prim31_notB, prim32_ix, prim33_ix, prim34_ix, prim35_tup, prim36_lst, prim37_len, prim38_len, prim39_len, prim40_abs, prim41_int, prim42_int, prim43_int, prim44_ord, prim45_str, prim_repr, prim47_list, prim48_list, prim49_sum, prim50_any, prim51_all, Pr.need, isEmpty_snoc, Res.bind_ok, Res.bind_bad, Res.bind_exc, SR.of_ok, SR.of_bad, SR.of_exc, SR.then_nx, SR.then_ret, SR.then_brk, SR.then_cnt, SR.then_exc, SR.then_bad, SR.ofO_some, SR.ofO_none, toV_ok, toB_ok, toI_ok, Out.d_val, Out.d_own, putOut_val, putOut_tup, put_nm', put_own', put_tup, putL_nil, putL_cons, free_no, free_val, free_own, free_ro, free_st, free_bor, free_err, rdS_err, evE_isi, isiS_err, evE_callx, pickK_some, evP_isi, evP_callx, evE_truth_isi, evE_truth_callx, evS_wipe, evS_tryc, tryK_exc, tryK_nx, tryK_ret, tryK_brk, tryK_cnt, evHs_cons, suK_some, suiteEnd_ret, suiteEnd_nx, dropE_some, dropS_eq, clear_nil, clear_no, clear_val, clear_own, clear_bor, clear_ro, clear_st, catchE_eq, wipeE_nil, wipeE_cons, put_tupL, evS_stx, stxK_some, setIx_eq, setS_own, setS_bor, popK_own, popK_bor, foOut_val, foOut_own, foOut_exc, recv_scount, recv_sfind, recv_sindex, recv_lcount, methF_scount, methF_sfind, methF_sindex, methF_lcount, prim_inR, evS_augx, augK_some, augG_some, augP_some, getIx_eq, gxS_own, gxS_bor, Option.bind_some, Option.bind_none, k1, k2, h1, h2, hf, plain, deq_str, deq_int, endStep, e, hb, h46, ef, hl, hj, hw, srT]
        · have hw' : (w + (k - 1) == 0) = false := by rw [beq_eq_false_iff_ne]; exact hw
          simp -implicitDefEqProofs [-List.map_map, turnF, bd_end_of_1, at0, atS, ofOut_some, ofOut_none, rdOp_eq, rdS_val, rdS_own, rdS_bor, rdS_ro, rdS_st, vS_val, vS_own, mvS_val, mvS_own, evE_v, evE_mv, evE_k, evE_g, evE_pr, primR_some, evO_nil, evO_cons', evP_rd, evP_v, evP_mv, evP_k, evP_g, evP_pr, evP_chain, evP_and, evP_or, evP_not, evP_ite, evP_slc, evP_meth, evP_call, evP_mu, evP_comp, opds_nil, opds_cons, cons2_some, get_dv, get_sl, getS_own0, getS_own1, getS_bor0, getS_bor1, getS_ro0, getS_ro1, getS_st0, stays_nilR, stays_consR, stay_dv, stay_sl, stS_ro, stS_st, evE_chain, chainR_bl, evE_and, evE_or, evE_not, evE_ite, evE_truth_rd, evE_truth_v, evE_truth_mv, evE_truth_k, evE_truth_g, evE_truth_pr, evE_truth_chain, evE_truth_and, evE_truth_or, evE_truth_not, evE_truth_ite, evE_truth_slc, evE_truth_meth, evE_truth_call, evE_truth_mu, evE_truth_comp, truO_some, truB_some, truD_non, truD_bl, truD_int, truD_str, truD_lst, truD_tup, evE_slc', evB_none, evB_some, slcR_some, slcF_lst, slcF_str, evE_meth', methR_some, recv_index, recv_split, recv_join, methF_index, methF_split, methF_join, evE_call, evE_mu, gSl_own, gSl_bor, muS_lst, muR_eq, muV_lst, muT_some, okE_some, sSl_own, sSl_bor, muL_append, muL_extend, muL_pop, muL_reverse, evE_comp, evC_none, evC_some, evS_set, evS_par, valK_some, valsOf_nil, valsOf_cons, parPut_nil, parPut_cons, evS_aug, augS_val, augT_val, evS_ex, evS_ret, evS_retN, evS_if, evS_for, evS_whl', evS_brk, evS_cnt, evS_pass, evS_rai, evSs_nil, evSs_cons, forR_seq, forR_tup, forR_str, prim1_add, prim2_add, prim3_add, prim4_sub, prim5_mul, prim6_mul, prim7_mul, prim8_fdiv, prim9_mod, prim10_pow, prim11_neg, prim12_eq, prim13_ne, prim14_lt, prim15_le, prim16_gt, prim17_ge, prim18_lt, prim19_le, prim20_gt, prim21_ge, prim22_isin, prim23_notin, prim24_isin, prim25_isin, prim26_notin, prim27_notin, prim28_isN, prim29_notN, prim30_isB, prim31_notB, prim32_ix, prim33_ix, prim34_ix, prim35_tup, prim36_lst, prim37_len, prim38_len, prim39_len, prim40_abs, prim41_int, prim42_int, prim43_int, prim44_ord, prim45_str, prim_repr, prim47_list, prim48_list, prim49_sum, prim50_any, prim51_all, Pr.need, isEmpty_snoc, Res.bind_ok, Res.bind_bad, Res.bind_exc, SR.of_ok, SR.of_bad, SR.of_exc, SR.then_nx, SR.then_ret, SR.then_brk, SR.then_cnt, SR.then_exc, SR.then_bad, SR.ofO_some, SR.ofO_none, toV_ok, toB_ok, toI_ok, Out.d_val, Out.d_own, putOut_val, putOut_tup, put_nm', put_own', put_tup, putL_nil, putL_cons, free_no, free_val, free_own, free_ro, free_st, free_bor, free_err, rdS_err, evE_isi, isiS_err, evE_callx, pickK_some, evP_isi, evP_callx, evE_truth_isi, evE_truth_callx, evS_wipe, evS_tryc, tryK_exc, tryK_nx, tryK_ret, tryK_brk, tryK_cnt, evHs_cons, suK_some, suiteEnd_ret, suiteEnd_nx, dropE_some, dropS_eq, clear_nil, clear_no, clear_val, clear_own, clear_bor, clear_ro, clear_st, catchE_eq, wipeE_nil, wipeE_cons, put_tupL, evS_stx, stxK_some, setIx_eq, setS_own, setS_bor, popK_own, popK_bor, foOut_val, foOut_own, foOut_exc, recv_scount, recv_sfind, recv_sindex, recv_lcount, methF_scount, methF_sfind, methF_sindex, methF_lcount, prim_inR, evS_augx, augK_some, augG_some, augP_some, getIx_eq, gxS_own, gxS_bor, Option.bind_some, Option.bind_none, k1, k2, h1, h2, hf, plain, deq_str, deq_int, endStep, e, hb, h46, ef, hl, hj, hw, hw', srT]
theorem fin6v {a b c : D} {ss : List S} {r : SR} {x : Option FRes} (h : evSs Γ G ss [.val a, .val b, .val c, .no, .no, .no] = r) (hr : leave [.val, .val, .val] r = x) : runDef Γ G 6 [.val, .val, .val] ss [a, b, c] = x := by
  unfold runDef
  rw [if_pos (by rfl)]
  show leave _ (evSs Γ G ss [.val a, .val b, .val c, .no, .no, .no]) = _
  rw [h, hr]
theorem end_loop (h1 : G[g1]? = some (.str abc)) (h2 : G[g2]? = some (.str [46])) {K : List Int} {t : List Nat} {b : Nat} :
    forRun (turnF Γ G (.nm 4) (bd_end_of_1 g1 g2)) (((t.drop b).zipIdx b).map fun p => D.int (p.2 : Int)) [.val (.tup (K.map .int)), .val (.str t), .val (.int (b : Int)), .val (.int 1), .no, .no] =
      srE (fun s : Int × Ev => [.val (.tup (K.map .int)), .val (.str t), .val (.int (b : Int)), .val (.int s.1), .no, .no]) (fun s => s.2) (fun s => s.2) (St1.run (endStep K (.tup (K.map .int)) t (b : Int)) (1, []) ((t.drop b).zipIdx b)) := by
  refine forRun_eq (body := turnF Γ G (.nm 4) (bd_end_of_1 g1 g2)) (fun p : Nat × Nat => D.int (p.2 : Int)) (fun s : Int × Ev => [.val (.tup (K.map .int)), .val (.str t), .val (.int (b : Int)), .val (.int s.1), .no, .no]) (fun s => s.2) (fun s => s.2)
    (fun r _ => ∀ p ∈ r, t[p.2]? = some p.1) (endStep K (.tup (K.map .int)) t (b : Int)) (fun s p r hI => ?_) _ (1, []) (fun p hp => ?_)
  · obtain ⟨c, i⟩ := p
    have := end_turn (Γ := Γ) h1 h2 (K := K) (b := (b : Int)) (w := s.1) (hI (c, i) List.mem_cons_self)
    refine ⟨?_, fun _ _ q hq => hI q (List.mem_cons_of_mem _ hq)⟩
    have e : endStep K (.tup (K.map .int)) t (b : Int) (s.1, []) (c, i) = endStep K (.tup (K.map .int)) t (b : Int) s (c, i) := rfl
    rw [← e]; exact this
  · obtain ⟨c, i⟩ := p
    have := List.mem_zipIdx hp
    obtain ⟨a1, a2, a3⟩ := this
    have h3 : (t.drop b)[i - b]? = some c := by
      rw [List.getElem?_eq_getElem (by omega)]
      exact congrArg some a3.symm
    rw [List.getElem?_drop] at h3
    rwa [show b + (i - b) = i from by omega] at h3
theorem sem_end_of (h1 : G[g1]? = some (.str abc)) (h2 : G[g2]? = some (.str [46])) : ∀ ds r, f_end_of.mf ds = some r → runDef Γ G N_end_of f_end_of.modes (ss_end_of g1 g2) ds = some r := by
  intro ds r h
  simp only [f_end_of] at h
  split at h
  · rename_i xs t b
    split at h
    · rename_i K hK
      split at h
      · rename_i hc
        cases h
        obtain ⟨c1, c2, c3, c4⟩ := hc
        obtain ⟨n, rfl⟩ := Int.eq_ofNat_of_zero_le c3
        rw [intsD_inv hK, Int.toNat_natCast]
        have key := end_loop (Γ := Γ) h1 h2 (K := K) (t := t) (b := n)
        have it : items .rng2 [.int (n : Int), .int (t.length : Int)] = some (((t.drop n).zipIdx n).map fun p => D.int (p.2 : Int)) := by
          rw [items_rng2 (small62_of (by omega) (by omega)) (small62_of (by omega) (by omega)), ← zip_items, List.length_drop]
          rw [show ((t.length : Int) - (n : Int)).toNat = t.length - n from by omega]
        have run := end_run K (.tup (K.map .int)) t (n : Int) (t.drop n) n (1, [])
        generalize St1.run (endStep K (.tup (K.map .int)) t (n : Int)) (1, []) ((t.drop n).zipIdx n) = q at *
        generalize ((t.drop n).zipIdx n).map (fun p => D.int (p.2 : Int)) = l0 at *
        generalize K.map D.int = l1 at *
        cases he : endG K (t.drop n) n 1 with
        | some j =>
          rw [he] at run
          obtain ⟨s', rfl⟩ := run
          refine fin6v (r := .ret (.val (.int (j : Int))) s'.2) ?_ rfl
          simp -implicitDefEqProofs [ss_end_of, at0, atS, ofOut_some, ofOut_none, rdOp_eq, rdS_val, rdS_own, rdS_bor, rdS_ro, rdS_st, vS_val, vS_own, mvS_val, mvS_own, evE_v, evE_mv, evE_k, evE_g, evE_pr, primR_some, evO_nil, evO_cons', evP_rd, evP_v, evP_mv, evP_k, evP_g, evP_pr, evP_chain, evP_and, evP_or, evP_not, evP_ite, evP_slc, evP_meth, evP_call, evP_mu, evP_comp, opds_nil, opds_cons, cons2_some, get_dv, get_sl, getS_own0, getS_own1, getS_bor0, getS_bor1, getS_ro0, getS_ro1, getS_st0, stays_nilR, stays_consR, stay_dv, stay_sl, stS_ro, stS_st, evE_chain, chainR_bl, evE_and, evE_or, evE_not, evE_ite, evE_truth_rd, evE_truth_v, evE_truth_mv, evE_truth_k, evE_truth_g, evE_truth_pr, evE_truth_chain, evE_truth_and, evE_truth_or, evE_truth_not, evE_truth_ite, evE_truth_slc, evE_truth_meth, evE_truth_call, evE_truth_mu, evE_truth_comp, truO_some, truB_some, truD_non, truD_bl, truD_int, truD_str, truD_lst, truD_tup, evE_slc', evB_none, evB_some, slcR_some, slcF_lst, slcF_str, evE_meth', methR_some, recv_index, recv_split, recv_join, methF_index, methF_split, methF_join, evE_call, evE_mu, gSl_own, gSl_bor, muS_lst, muR_eq, muV_lst, muT_some, okE_some, sSl_own, sSl_bor, muL_append, muL_extend, muL_pop, muL_reverse, evE_comp, evC_none, evC_some, evS_set, evS_par, valK_some, valsOf_nil, valsOf_cons, parPut_nil, parPut_cons, evS_aug, augS_val, augT_val, evS_ex, evS_ret, evS_retN, evS_if, evS_for, evS_whl', evS_brk, evS_cnt, evS_pass, evS_rai, evSs_nil, evSs_cons, forR_seq, forR_tup, forR_str, prim1_add, prim2_add, prim3_add, prim4_sub, prim5_mul, prim6_mul, prim7_mul, prim8_fdiv, prim9_mod, prim10_pow, prim11_neg, prim12_eq, prim13_ne, prim14_lt, prim15_le, prim16_gt, prim17_ge, prim18_lt, prim19_le, prim20_gt, prim21_ge, prim22_isin, prim23_notin, prim24_isin, prim25_isin, prim26_notin, prim27_notin, prim28_isN, prim29_notN, prim30_isB, prim31_notB, prim32_ix, prim33_ix, prim34_ix, prim35_tup, prim36_lst, prim37_len, prim38_len, prim39_len, prim40_abs, prim41_int, prim42_int, prim43_int, prim44_ord, prim45_str, prim_repr, prim47_list, prim48_list, prim49_sum, prim50_any, prim51_all, Pr.need, isEmpty_snoc, Res.bind_ok, Res.bind_bad, Res.bind_exc, SR.of_ok, SR.of_bad, SR.of_exc, SR.then_nx, SR.then_ret, SR.then_brk, SR.then_cnt, SR.then_exc, SR.then_bad, SR.ofO_some, SR.ofO_none, toV_ok, toB_ok, toI_ok, Out.d_val, Out.d_own, putOut_val, putOut_tup, put_nm', put_own', put_tup, putL_nil, putL_cons, free_no, free_val, free_own, free_ro, free_st, free_bor, free_err, rdS_err, evE_isi, isiS_err, evE_callx, pickK_some, evP_isi, evP_callx, evE_truth_isi, evE_truth_callx, evS_wipe, evS_tryc, tryK_exc, tryK_nx, tryK_ret, tryK_brk, tryK_cnt, evHs_cons, suK_some, suiteEnd_ret, suiteEnd_nx, dropE_some, dropS_eq, clear_nil, clear_no, clear_val, clear_own, clear_bor, clear_ro, clear_st, catchE_eq, wipeE_nil, wipeE_cons, put_tupL, evS_stx, stxK_some, setIx_eq, setS_own, setS_bor, popK_own, popK_bor, foOut_val, foOut_own, foOut_exc, recv_scount, recv_sfind, recv_sindex, recv_lcount, methF_scount, methF_sfind, methF_sindex, methF_lcount, prim_inR, evS_augx, augK_some, augG_some, augP_some, getIx_eq, gxS_own, gxS_bor, Option.bind_some, Option.bind_none, forR_some _ _ _ _ it, key, srE]
        | none =>
          rw [he] at run
          rcases run with ⟨s', rfl⟩ | ⟨s', rfl⟩
          · refine fin6v (r := .ret (.val .non) s'.2) ?_ rfl
            simp -implicitDefEqProofs [ss_end_of, at0, atS, ofOut_some, ofOut_none, rdOp_eq, rdS_val, rdS_own, rdS_bor, rdS_ro, rdS_st, vS_val, vS_own, mvS_val, mvS_own, evE_v, evE_mv, evE_k, evE_g, evE_pr, primR_some, evO_nil, evO_cons', evP_rd, evP_v, evP_mv, evP_k, evP_g, evP_pr, evP_chain, evP_and, evP_or, evP_not, evP_ite, evP_slc, evP_meth, evP_call, evP_mu, evP_comp, opds_nil, opds_cons, cons2_some, get_dv, get_sl, getS_own0, getS_own1, getS_bor0, getS_bor1, getS_ro0, getS_ro1, getS_st0, stays_nilR, stays_consR, stay_dv, stay_sl, stS_ro, stS_st, evE_chain, chainR_bl, evE_and, evE_or, evE_not, evE_ite, evE_truth_rd, evE_truth_v, evE_truth_mv, evE_truth_k, evE_truth_g, evE_truth_pr, evE_truth_chain, evE_truth_and, evE_truth_or, evE_truth_not, evE_truth_ite, evE_truth_slc, evE_truth_meth, evE_truth_call, evE_truth_mu, evE_truth_comp, truO_some, truB_some, truD_non, truD_bl, truD_int, truD_str, truD_lst, truD_tup, evE_slc', evB_none, evB_some, slcR_some, slcF_lst, slcF_str, evE_meth', methR_some, recv_index, recv_split, recv_join, methF_index, methF_split, methF_join, evE_call, evE_mu, gSl_own, gSl_bor, muS_lst, muR_eq, muV_lst, muT_some, okE_some, sSl_own, sSl_bor, muL_append, muL_extend, muL_pop, muL_reverse, evE_comp, evC_none, evC_some, evS_set, evS_par, valK_some, valsOf_nil, valsOf_cons, parPut_nil, parPut_cons, evS_aug, augS_val, augT_val, evS_ex, evS_ret, evS_retN, evS_if, evS_for, evS_whl', evS_brk, evS_cnt, evS_pass, evS_rai, evSs_nil, evSs_cons, forR_seq, forR_tup, forR_str, prim1_add, prim2_add, prim3_add, prim4_sub, prim5_mul, prim6_mul, prim7_mul, prim8_fdiv, prim9_mod, prim10_pow, prim11_neg, prim12_eq, prim13_ne, prim14_lt, prim15_le, prim16_gt, prim17_ge, prim18_lt, prim19_le, prim20_gt, prim21_ge, prim22_isin, prim23_notin, prim24_isin, prim25_isin, prim26_notin, prim27_notin, prim28_isN, prim29_notN, prim30_isB, prim31_notB, prim32_ix, prim33_ix, prim34_ix, prim35_tup, prim36_lst, prim37_len, prim38_len, prim39_len, prim40_abs, prim41_int, prim42_int, prim43_int, prim44_ord, prim45_str, prim_repr, prim47_list, prim48_list, prim49_sum, prim50_any, prim51_all, Pr.need, isEmpty_snoc, Res.bind_ok, Res.bind_bad, Res.bind_exc, SR.of_ok, SR.of_bad, SR.of_exc, SR.then_nx, SR.then_ret, SR.then_brk, SR.then_cnt, SR.then_exc, SR.then_bad, SR.ofO_some, SR.ofO_none, toV_ok, toB_ok, toI_ok, Out.d_val, Out.d_own, putOut_val, putOut_tup, put_nm', put_own', put_tup, putL_nil, putL_cons, free_no, free_val, free_own, free_ro, free_st, free_bor, free_err, rdS_err, evE_isi, isiS_err, evE_callx, pickK_some, evP_isi, evP_callx, evE_truth_isi, evE_truth_callx, evS_wipe, evS_tryc, tryK_exc, tryK_nx, tryK_ret, tryK_brk, tryK_cnt, evHs_cons, suK_some, suiteEnd_ret, suiteEnd_nx, dropE_some, dropS_eq, clear_nil, clear_no, clear_val, clear_own, clear_bor, clear_ro, clear_st, catchE_eq, wipeE_nil, wipeE_cons, put_tupL, evS_stx, stxK_some, setIx_eq, setS_own, setS_bor, popK_own, popK_bor, foOut_val, foOut_own, foOut_exc, recv_scount, recv_sfind, recv_sindex, recv_lcount, methF_scount, methF_sfind, methF_sindex, methF_lcount, prim_inR, evS_augx, augK_some, augG_some, augP_some, getIx_eq, gxS_own, gxS_bor, Option.bind_some, Option.bind_none, forR_some _ _ _ _ it, key, srE]
          · refine fin6v (r := .ret (.val .non) [.val (.tup l1), .val (.str t), .val (.int (n : Int)), .no, .no, .no]) ?_ rfl
            simp -implicitDefEqProofs [ss_end_of, at0, atS, ofOut_some, ofOut_none, rdOp_eq, rdS_val, rdS_own, rdS_bor, rdS_ro, rdS_st, vS_val, vS_own, mvS_val, mvS_own, evE_v, evE_mv, evE_k, evE_g, evE_pr, primR_some, evO_nil, evO_cons', evP_rd, evP_v, evP_mv, evP_k, evP_g, evP_pr, evP_chain, evP_and, evP_or, evP_not, evP_ite, evP_slc, evP_meth, evP_call, evP_mu, evP_comp, opds_nil, opds_cons, cons2_some, get_dv, get_sl, getS_own0, getS_own1, getS_bor0, getS_bor1, getS_ro0, getS_ro1, getS_st0, stays_nilR, stays_consR, stay_dv, stay_sl, stS_ro, stS_st, evE_chain, chainR_bl, evE_and, evE_or, evE_not, evE_ite, evE_truth_rd, evE_truth_v, evE_truth_mv, evE_truth_k, evE_truth_g, evE_truth_pr, evE_truth_chain, evE_truth_and, evE_truth_or, evE_truth_not, evE_truth_ite, evE_truth_slc, evE_truth_meth, evE_truth_call, evE_truth_mu, evE_truth_comp, truO_some, truB_some, truD_non, truD_bl, truD_int, truD_str, truD_lst, truD_tup, evE_slc', evB_none, evB_some, slcR_some, slcF_lst, slcF_str, evE_meth', methR_some, recv_index, recv_split, recv_join, methF_index, methF_split, methF_join, evE_call, evE_mu, gSl_own, gSl_bor, muS_lst, muR_eq, muV_lst, muT_some, okE_some, sSl_own, sSl_bor, muL_append, muL_extend, muL_pop, muL_reverse, evE_comp, evC_none, evC_some, evS_set, evS_par, valK_some, valsOf_nil, valsOf_cons, parPut_nil, parPut_cons, evS_aug, augS_val, augT_val, evS_ex, evS_ret, evS_retN, evS_if, evS_for, evS_whl', evS_brk, evS_cnt, evS_pass, evS_rai, evSs_nil, evSs_cons, forR_seq, forR_tup, forR_str, prim1_add, prim2_add, prim3_add, prim4_sub, prim5_mul, prim6_mul, prim7_mul, prim8_fdiv, prim9_mod, prim10_pow, prim11_neg, prim12_eq, prim13_ne, prim14_lt, prim15_le, prim16_gt, prim17_ge, prim18_lt, prim19_le, prim20_gt, prim21_ge, prim22_isin, prim23_notin, prim24_isin, prim25_isin, prim26_notin, prim27_notin, prim28_isN, prim29_notN, prim30_isB, prim31_notB, prim32_ix, prim33_ix, prim34_ix, prim35_tup, prim36_lst, prim37_len, prim38_len, prim39_len, prim40_abs, prim41_int, prim42_int, prim43_int, prim44_ord, prim45_str, prim_repr, prim47_list, prim48_list, prim49_sum, prim50_any, prim51_all, Pr.need, isEmpty_snoc, Res.bind_ok, Res.bind_bad, Res.bind_exc, SR.of_ok, SR.of_bad, SR.of_exc, SR.then_nx, SR.then_ret, SR.then_brk, SR.then_cnt, SR.then_exc, SR.then_bad, SR.ofO_some, SR.ofO_none, toV_ok, toB_ok, toI_ok, Out.d_val, Out.d_own, putOut_val, putOut_tup, put_nm', put_own', put_tup, putL_nil, putL_cons, free_no, free_val, free_own, free_ro, free_st, free_bor, free_err, rdS_err, evE_isi, isiS_err, evE_callx, pickK_some, evP_isi, evP_callx, evE_truth_isi, evE_truth_callx, evS_wipe, evS_tryc, tryK_exc, tryK_nx, tryK_ret, tryK_brk, tryK_cnt, evHs_cons, suK_some, suiteEnd_ret, suiteEnd_nx, dropE_some, dropS_eq, clear_nil, clear_no, clear_val, clear_own, clear_bor, clear_ro, clear_st, catchE_eq, wipeE_nil, wipeE_cons, put_tupL, evS_stx, stxK_some, setIx_eq, setS_own, setS_bor, popK_own, popK_bor, foOut_val, foOut_own, foOut_exc, recv_scount, recv_sfind, recv_sindex, recv_lcount, methF_scount, methF_sfind, methF_sindex, methF_lcount, prim_inR, evS_augx, augK_some, augG_some, augP_some, getIx_eq, gxS_own, gxS_bor, Option.bind_some, Option.bind_none, forR_some _ _ _ _ it, key, srE]
      · cases h
    · cases h
  · cases h
end
theorem call_end_of {K : List Int} {t : List Nat} {b : Nat} {e : Ev} (h : K.length ≤ 1000 ∧ t.length ≤ 16777216 ∧ b ≤ 16777216) : callR (some f_end_of) [.dv (kD K), .dv (.str t), .dv (.int (b : Int))] e = .ok (.val (endD (endG K (t.drop b) b 1))) e := by
  have : f_end_of.mf [kD K, .str t, .int (b : Int)] = some ⟨.val (endD (endG K (t.drop b) b 1)), []⟩ := by
    simp only [f_end_of, kD, intsD_map, Int.toNat_natCast]
    rw [if_pos ⟨h.1, h.2.1, by omega, by omega⟩]
  have q1 : f_end_of.modes = [.val, .val, .val] := rfl
  have q2 : f_end_of.dflt = [] := rfl
  generalize kD K = l1 at *
  simp [callR, argsGet, argGet, apart, bors, lsl, putBack, foOut, q1, q2, this]
/-! ### is_tree, check_tree, size, width -/
def isT (K : List Int) (t : List Nat) : Bool := (endG K t 0 1 == some t.length) && okS (sizF t) ((t.count 46 : Nat) : Int)
def okT (K : List Int) (t : List Nat) : Bool := decide (K.length ≤ 1000) && decide (t.length ≤ 16777216)
theorem okT_inv {K : List Int} {t : List Nat} (h : okT K t = true) : K.length ≤ 1000 ∧ t.length ≤ 16777216 := by
  unfold okT at h
  rw [Bool.and_eq_true] at h
  exact ⟨of_decide_eq_true h.1, of_decide_eq_true h.2⟩
/-- a def of kinds and a text -/
def kt (g : List Int → List Nat → FO) : List D → Option FRes := fun ds => match ds with
  | [.tup xs, .str t] => (match intsD xs with
    | some K => if okT K t then some ⟨g K t, []⟩ else none
    | none => none)
  | _ => none
theorem kt_inv {g : List Int → List Nat → FO} {ds : List D} {r : FRes} (h : kt g ds = some r) : ∃ K t, ds = [kD K, .str t] ∧ okT K t = true ∧ r = ⟨g K t, []⟩ := by
  unfold kt at h
  split at h
  · split at h
    · rename_i K hK
      split at h
      · rename_i hc
        cases h
        rw [intsD_inv hK]
        exact ⟨K, _, rfl, hc, rfl⟩
      · cases h
    · cases h
  · cases h
theorem kt_eq {g : List Int → List Nat → FO} {K : List Int} {t : List Nat} (h : okT K t = true) : kt g [kD K, .str t] = some ⟨g K t, []⟩ := by
  simp only [kt, kD, intsD_map, h, if_true]
theorem call_kt {g : List Int → List Nat → FO} {K : List Int} {t : List Nat} {e : Ev} (h : okT K t = true) : callR (some ⟨[.val, .val], [], kt g⟩) [.dv (kD K), .dv (.str t)] e = foOut (g K t) e := by
  have := kt_eq (g := g) h
  generalize kD K = l1 at *
  simp [callR, argsGet, argGet, apart, bors, putBack, this]
def f_is_tree (c : Nat) : Fn := ⟨[.val, .val], [], kt fun K t => if isK K then .val (.bl (isT K t)) else .exc ⟨c, []⟩⟩
theorem deq_end (o : Option Nat) (n : Nat) : deq (endD o) (.int (n : Int)) = (o == some n) := by
  cases o with
  | none => rfl
  | some j =>
    show ((j : Int) == (n : Int)) = _
    rw [Bool.eq_iff_iff]
    simp
    omega
theorem plain_end (o : Option Nat) : plain 60 (endD o) = true := by cases o <;> rfl
section
variable {Γ : List Fn} {G : List D}
theorem fin2w {a b : D} {ss : List S} {r : SR} {x : Option FRes} (h : evSs Γ G ss [.val a, .val b] = r) (hr : leave [.val, .val] r = x) : runDef Γ G 2 [.val, .val] ss [a, b] = x := by
  unfold runDef
  rw [if_pos (by rfl)]
  show leave _ (evSs Γ G ss [.val a, .val b]) = _
  rw [h, hr]
theorem sem_is_tree {c f1 f2 f3 f4 g : Nat} (h1 : Γ[f1]? = some (f_check_kinds c)) (h2 : Γ[f2]? = some f_is_allowed) (h3 : Γ[f3]? = some f_size_of) (hg : G[g]? = some (.str [46])) (h4 : Γ[f4]? = some f_end_of) :
    ∀ ds r, (f_is_tree c).mf ds = some r → runDef Γ G N_is_tree (f_is_tree c).modes (ss_is_tree f1 f2 f3 g f4) ds = some r := by
  intro ds r h
  simp only [f_is_tree] at h
  obtain ⟨K, t, rfl, ok, rfl⟩ := kt_inv h
  obtain ⟨k1, k2⟩ := okT_inv ok
  have c1 := fun e => call_check_kinds (c := c) (K := K) (e := e) k1
  have c2 := fun e => call_end_of (K := K) (t := t) (b := 0) (e := e) ⟨k1, k2, by omega⟩
  rw [List.drop_zero, Int.natCast_zero] at c2
  have d1 := deq_end (endG K t 0 1) t.length
  have d2 := plain_end (endG K t 0 1)
  unfold isT
  generalize endG K t 0 1 = o at *
  generalize endD o = od at *
  cases hk : isK K with
  | false =>
    refine fin2w (r := .exc ⟨c, []⟩ [.val (kD K), .val (.str t)]) ?_ rfl
    generalize kD K = l1 at *
    simp -implicitDefEqProofs [ss_is_tree, at0, atS, ofOut_some, ofOut_none, rdOp_eq, rdS_val, rdS_own, rdS_bor, rdS_ro, rdS_st, vS_val, vS_own, mvS_val, mvS_own, evE_v, evE_mv, evE_k, evE_g, evE_pr, primR_some, evO_nil, evO_cons', evP_rd, evP_v, evP_mv, evP_k, evP_g, evP_pr, evP_chain, evP_and, evP_or, evP_not, evP_ite, evP_slc, evP_meth, evP_call, evP_mu, evP_comp, opds_nil, opds_cons, cons2_some, get_dv, get_sl, getS_own0, getS_own1, getS_bor0, getS_bor1, getS_ro0, getS_ro1, getS_st0, stays_nilR, stays_consR, stay_dv, stay_sl, stS_ro, stS_st, evE_chain, chainR_bl, evE_and, evE_or, evE_not, evE_ite, evE_truth_rd, evE_truth_v, evE_truth_mv, evE_truth_k, evE_truth_g, evE_truth_pr, evE_truth_chain, evE_truth_and, evE_truth_or, evE_truth_not, evE_truth_ite, evE_truth_slc, evE_truth_meth, evE_truth_call, evE_truth_mu, evE_truth_comp, truO_some, truB_some, truD_non, truD_bl, truD_int, truD_str, truD_lst, truD_tup, evE_slc', evB_none, evB_some, slcR_some, slcF_lst, slcF_str, evE_meth', methR_some, recv_index, recv_split, recv_join, methF_index, methF_split, methF_join, evE_call, evE_mu, gSl_own, gSl_bor, muS_lst, muR_eq, muV_lst, muT_some, okE_some, sSl_own, sSl_bor, muL_append, muL_extend, muL_pop, muL_reverse, evE_comp, evC_none, evC_some, evS_set, evS_par, valK_some, valsOf_nil, valsOf_cons, parPut_nil, parPut_cons, evS_aug, augS_val, augT_val, evS_ex, evS_ret, evS_retN, evS_if, evS_for, evS_whl', evS_brk, evS_cnt, evS_pass, evS_rai, evSs_nil, evSs_cons, forR_seq, forR_tup, forR_str, prim1_add, prim2_add, prim3_add, prim4_sub, prim5_mul, prim6_mul, prim7_mul, prim8_fdiv, prim9_mod, prim10_pow, prim11_neg, prim12_eq, prim13_ne, prim14_lt, prim15_le, prim16_gt, prim17_ge, prim18_lt, prim19_le, prim20_gt, prim21_ge, prim22_isin, prim23_notin, prim24_isin, prim25_isin, prim26_notin, prim27_notin, prim28_isN, prim29_notN, prim30_isB, prim31_notB, prim32_ix, prim33_ix, prim34_ix, prim35_tup, prim36_lst, prim37_len, prim38_len, prim39_len, prim40_abs, prim41_int, prim42_int, prim43_int, prim44_ord, prim45_str, prim_repr, prim47_list, prim48_list, prim49_sum, prim50_any, prim51_all, Pr.need, isEmpty_snoc, Res.bind_ok, Res.bind_bad, Res.bind_exc, SR.of_ok, SR.of_bad, SR.of_exc, SR.then_nx, SR.then_ret, SR.then_brk, SR.then_cnt, SR.then_exc, SR.then_bad, SR.ofO_some, SR.ofO_none, toV_ok, toB_ok, toI_ok, Out.d_val, Out.d_own, putOut_val, putOut_tup, put_nm', put_own', put_tup, putL_nil, putL_cons, free_no, free_val, free_own, free_ro, free_st, free_bor, free_err, rdS_err, evE_isi, isiS_err, evE_callx, pickK_some, evP_isi, evP_callx, evE_truth_isi, evE_truth_callx, evS_wipe, evS_tryc, tryK_exc, tryK_nx, tryK_ret, tryK_brk, tryK_cnt, evHs_cons, suK_some, suiteEnd_ret, suiteEnd_nx, dropE_some, dropS_eq, clear_nil, clear_no, clear_val, clear_own, clear_bor, clear_ro, clear_st, catchE_eq, wipeE_nil, wipeE_cons, put_tupL, evS_stx, stxK_some, setIx_eq, setS_own, setS_bor, popK_own, popK_bor, foOut_val, foOut_own, foOut_exc, recv_scount, recv_sfind, recv_sindex, recv_lcount, methF_scount, methF_sfind, methF_sindex, methF_lcount, prim_inR, evS_augx, augK_some, augG_some, augP_some, getIx_eq, gxS_own, gxS_bor, Option.bind_some, Option.bind_none, h1, c1, hk]
  | true =>
    refine fin2w (r := .ret (.val (.bl ((o == some t.length) && okS (sizF t) ((t.count 46 : Nat) : Int)))) [.val (kD K), .val (.str t)]) ?_ rfl
    generalize kD K = l1 at *
    generalize (o == some t.length) = b1 at *
    cases b1 <;>
    simp -implicitDefEqProofs [ss_is_tree, at0, atS, ofOut_some, ofOut_none, rdOp_eq, rdS_val, rdS_own, rdS_bor, rdS_ro, rdS_st, vS_val, vS_own, mvS_val, mvS_own, evE_v, evE_mv, evE_k, evE_g, evE_pr, primR_some, evO_nil, evO_cons', evP_rd, evP_v, evP_mv, evP_k, evP_g, evP_pr, evP_chain, evP_and, evP_or, evP_not, evP_ite, evP_slc, evP_meth, evP_call, evP_mu, evP_comp, opds_nil, opds_cons, cons2_some, get_dv, get_sl, getS_own0, getS_own1, getS_bor0, getS_bor1, getS_ro0, getS_ro1, getS_st0, stays_nilR, stays_consR, stay_dv, stay_sl, stS_ro, stS_st, evE_chain, chainR_bl, evE_and, evE_or, evE_not, evE_ite, evE_truth_rd, evE_truth_v, evE_truth_mv, evE_truth_k, evE_truth_g, evE_truth_pr, evE_truth_chain, evE_truth_and, evE_truth_or, evE_truth_not, evE_truth_ite, evE_truth_slc, evE_truth_meth, evE_truth_call, evE_truth_mu, evE_truth_comp, truO_some, truB_some, truD_non, truD_bl, truD_int, truD_str, truD_lst, truD_tup, evE_slc', evB_none, evB_some, slcR_some, slcF_lst, slcF_str, evE_meth', methR_some, recv_index, recv_split, recv_join, methF_index, methF_split, methF_join, evE_call, evE_mu, gSl_own, gSl_bor, muS_lst, muR_eq, muV_lst, muT_some, okE_some, sSl_own, sSl_bor, muL_append, muL_extend, muL_pop, muL_reverse, evE_comp, evC_none, evC_some, evS_set, evS_par, valK_some, valsOf_nil, valsOf_cons, parPut_nil, parPut_cons, evS_aug, augS_val, augT_val, evS_ex, evS_ret, evS_retN, evS_if, evS_for, evS_whl', evS_brk, evS_cnt, evS_pass, evS_rai, evSs_nil, evSs_cons, forR_seq, forR_tup, forR_str, prim1_add, prim2_add, prim3_add, prim4_sub, prim5_mul, prim6_mul, prim7_mul, prim8_fdiv, prim9_mod, prim10_pow, prim11_neg, prim12_eq, prim13_ne, prim14_lt, prim15_le, prim16_gt, prim17_ge, prim18_lt, prim19_le, prim20_gt, prim21_ge, prim22_isin, prim23_notin, prim24_isin, prim25_isin, prim26_notin, prim27_notin, prim28_isN, prim29_notN, prim30_isB, prim31_notB, prim32_ix, prim33_ix, prim34_ix, prim35_tup, prim36_lst, prim37_len, prim38_len, prim39_len, prim40_abs, prim41_int, prim42_int, prim43_int, prim44_ord, prim45_str, prim_repr, prim47_list, prim48_list, prim49_sum, prim50_any, prim51_all, Pr.need, isEmpty_snoc, Res.bind_ok, Res.bind_bad, Res.bind_exc, SR.of_ok, SR.of_bad, SR.of_exc, SR.then_nx, SR.then_ret, SR.then_brk, SR.then_cnt, SR.then_exc, SR.then_bad, SR.ofO_some, SR.ofO_none, toV_ok, toB_ok, toI_ok, Out.d_val, Out.d_own, putOut_val, putOut_tup, put_nm', put_own', put_tup, putL_nil, putL_cons, free_no, free_val, free_own, free_ro, free_st, free_bor, free_err, rdS_err, evE_isi, isiS_err, evE_callx, pickK_some, evP_isi, evP_callx, evE_truth_isi, evE_truth_callx, evS_wipe, evS_tryc, tryK_exc, tryK_nx, tryK_ret, tryK_brk, tryK_cnt, evHs_cons, suK_some, suiteEnd_ret, suiteEnd_nx, dropE_some, dropS_eq, clear_nil, clear_no, clear_val, clear_own, clear_bor, clear_ro, clear_st, catchE_eq, wipeE_nil, wipeE_cons, put_tupL, evS_stx, stxK_some, setIx_eq, setS_own, setS_bor, popK_own, popK_bor, foOut_val, foOut_own, foOut_exc, recv_scount, recv_sfind, recv_sindex, recv_lcount, methF_scount, methF_sfind, methF_sindex, methF_lcount, prim_inR, evS_augx, augK_some, augG_some, augP_some, getIx_eq, gxS_own, gxS_bor, Option.bind_some, Option.bind_none, h1, h2, h3, h4, hg, c1, c2, call_is_allowed, call_size_of, hk, d1, d2, plain]
theorem call_is_tree {c : Nat} {K : List Int} {t : List Nat} {e : Ev} (h : okT K t = true) : callR (some (f_is_tree c)) [.dv (kD K), .dv (.str t)] e = foOut (if isK K then .val (.bl (isT K t)) else .exc ⟨c, []⟩) e := call_kt h
def f_check_tree (c n : Nat) : Fn := ⟨[.val, .val], [], kt fun K t => if isK K then (if isT K t then .val .non else .exc ⟨n, []⟩) else .exc ⟨c, []⟩⟩
theorem sem_check_tree {c n f : Nat} (hf : Γ[f]? = some (f_is_tree c)) : ∀ ds r, (f_check_tree c n).mf ds = some r → runDef Γ G N_check_tree (f_check_tree c n).modes (ss_check_tree n f) ds = some r := by
  intro ds r h
  simp only [f_check_tree] at h
  obtain ⟨K, t, rfl, ok, rfl⟩ := kt_inv h
  have c1 := fun e => call_is_tree (c := c) (e := e) ok
  cases hk : isK K <;> cases ht : isT K t <;> rw [hk, ht] at c1 <;> first
    | (refine fin2w (r := .exc ⟨c, []⟩ [.val (kD K), .val (.str t)]) ?_ rfl
       generalize kD K = l1 at *
       simp -implicitDefEqProofs [ss_check_tree, at0, atS, ofOut_some, ofOut_none, rdOp_eq, rdS_val, rdS_own, rdS_bor, rdS_ro, rdS_st, vS_val, vS_own, mvS_val, mvS_own, evE_v, evE_mv, evE_k, evE_g, evE_pr, primR_some, evO_nil, evO_cons', evP_rd, evP_v, evP_mv, evP_k, evP_g, evP_pr, evP_chain, evP_and, evP_or, evP_not, evP_ite, evP_slc, evP_meth, evP_call, evP_mu, evP_comp, opds_nil, opds_cons, cons2_some, get_dv, get_sl, getS_own0, getS_own1, getS_bor0, getS_bor1, getS_ro0, getS_ro1, getS_st0, stays_nilR, stays_consR, stay_dv, stay_sl, stS_ro, stS_st, evE_chain, chainR_bl, evE_and, evE_or, evE_not, evE_ite, evE_truth_rd, evE_truth_v, evE_truth_mv, evE_truth_k, evE_truth_g, evE_truth_pr, evE_truth_chain, evE_truth_and, evE_truth_or, evE_truth_not, evE_truth_ite, evE_truth_slc, evE_truth_meth, evE_truth_call, evE_truth_mu, evE_truth_comp, truO_some, truB_some, truD_non, truD_bl, truD_int, truD_str, truD_lst, truD_tup, evE_slc', evB_none, evB_some, slcR_some, slcF_lst, slcF_str, evE_meth', methR_some, recv_index, recv_split, recv_join, methF_index, methF_split, methF_join, evE_call, evE_mu, gSl_own, gSl_bor, muS_lst, muR_eq, muV_lst, muT_some, okE_some, sSl_own, sSl_bor, muL_append, muL_extend, muL_pop, muL_reverse, evE_comp, evC_none, evC_some, evS_set, evS_par, valK_some, valsOf_nil, valsOf_cons, parPut_nil, parPut_cons, evS_aug, augS_val, augT_val, evS_ex, evS_ret, evS_retN, evS_if, evS_for, evS_whl', evS_brk, evS_cnt, evS_pass, evS_rai, evSs_nil, evSs_cons, forR_seq, forR_tup, forR_str, prim1_add, prim2_add, prim3_add, prim4_sub, prim5_mul, prim6_mul, prim7_mul, prim8_fdiv, prim9_mod, prim10_pow, prim11_neg, prim12_eq, prim13_ne, prim14_lt, prim15_le, prim16_gt, prim17_ge, prim18_lt, prim19_le, prim20_gt, prim21_ge, prim22_isin, prim23_notin, prim24_isin, prim25_isin, prim26_notin, prim27_notin, prim28_isN, prim29_notN, prim30_isB, prim31_notB, prim32_ix, prim33_ix, prim34_ix, prim35_tup, prim36_lst, prim37_len, prim38_len, prim39_len, prim40_abs, prim41_int, prim42_int, prim43_int, prim44_ord, prim45_str, prim_repr, prim47_list, prim48_list, prim49_sum, prim50_any, prim51_all, Pr.need, isEmpty_snoc, Res.bind_ok, Res.bind_bad, Res.bind_exc, SR.of_ok, SR.of_bad, SR.of_exc, SR.then_nx, SR.then_ret, SR.then_brk, SR.then_cnt, SR.then_exc, SR.then_bad, SR.ofO_some, SR.ofO_none, toV_ok, toB_ok, toI_ok, Out.d_val, Out.d_own, putOut_val, putOut_tup, put_nm', put_own', put_tup, putL_nil, putL_cons, free_no, free_val, free_own, free_ro, free_st, free_bor, free_err, rdS_err, evE_isi, isiS_err, evE_callx, pickK_some, evP_isi, evP_callx, evE_truth_isi, evE_truth_callx, evS_wipe, evS_tryc, tryK_exc, tryK_nx, tryK_ret, tryK_brk, tryK_cnt, evHs_cons, suK_some, suiteEnd_ret, suiteEnd_nx, dropE_some, dropS_eq, clear_nil, clear_no, clear_val, clear_own, clear_bor, clear_ro, clear_st, catchE_eq, wipeE_nil, wipeE_cons, put_tupL, evS_stx, stxK_some, setIx_eq, setS_own, setS_bor, popK_own, popK_bor, foOut_val, foOut_own, foOut_exc, recv_scount, recv_sfind, recv_sindex, recv_lcount, methF_scount, methF_sfind, methF_sindex, methF_lcount, prim_inR, evS_augx, augK_some, augG_some, augP_some, getIx_eq, gxS_own, gxS_bor, Option.bind_some, Option.bind_none, hf, c1]; done)
    | (refine fin2w (r := .exc ⟨n, []⟩ [.val (kD K), .val (.str t)]) ?_ rfl
       generalize kD K = l1 at *
       simp -implicitDefEqProofs [ss_check_tree, at0, atS, ofOut_some, ofOut_none, rdOp_eq, rdS_val, rdS_own, rdS_bor, rdS_ro, rdS_st, vS_val, vS_own, mvS_val, mvS_own, evE_v, evE_mv, evE_k, evE_g, evE_pr, primR_some, evO_nil, evO_cons', evP_rd, evP_v, evP_mv, evP_k, evP_g, evP_pr, evP_chain, evP_and, evP_or, evP_not, evP_ite, evP_slc, evP_meth, evP_call, evP_mu, evP_comp, opds_nil, opds_cons, cons2_some, get_dv, get_sl, getS_own0, getS_own1, getS_bor0, getS_bor1, getS_ro0, getS_ro1, getS_st0, stays_nilR, stays_consR, stay_dv, stay_sl, stS_ro, stS_st, evE_chain, chainR_bl, evE_and, evE_or, evE_not, evE_ite, evE_truth_rd, evE_truth_v, evE_truth_mv, evE_truth_k, evE_truth_g, evE_truth_pr, evE_truth_chain, evE_truth_and, evE_truth_or, evE_truth_not, evE_truth_ite, evE_truth_slc, evE_truth_meth, evE_truth_call, evE_truth_mu, evE_truth_comp, truO_some, truB_some, truD_non, truD_bl, truD_int, truD_str, truD_lst, truD_tup, evE_slc', evB_none, evB_some, slcR_some, slcF_lst, slcF_str, evE_meth', methR_some, recv_index, recv_split, recv_join, methF_index, methF_split, methF_join, evE_call, evE_mu, gSl_own, gSl_bor, muS_lst, muR_eq, muV_lst, muT_some, okE_some, sSl_own, sSl_bor, muL_append, muL_extend, muL_pop, muL_reverse, evE_comp, evC_none, evC_some, evS_set, evS_par, valK_some, valsOf_nil, valsOf_cons, parPut_nil, parPut_cons, evS_aug, augS_val, augT_val, evS_ex, evS_ret, evS_retN, evS_if, evS_for, evS_whl', evS_brk, evS_cnt, evS_pass, evS_rai, evSs_nil, evSs_cons, forR_seq, forR_tup, forR_str, prim1_add, prim2_add, prim3_add, prim4_sub, prim5_mul, prim6_mul, prim7_mul, prim8_fdiv, prim9_mod, prim10_pow, prim11_neg, prim12_eq, prim13_ne, prim14_lt, prim15_le, prim16_gt, prim17_ge, prim18_lt, prim19_le, prim20_gt, prim21_ge, prim22_isin, prim23_notin, prim24_isin, prim25_isin, prim26_notin, prim27_notin, prim28_isN, prim29_notN, prim30_isB, prim31_notB, prim32_ix, prim33_ix, prim34_ix, prim35_tup, prim36_lst, prim37_len, prim38_len, prim39_len, prim40_abs, prim41_int, prim42_int, prim43_int, prim44_ord, prim45_str, prim_repr, prim47_list, prim48_list, prim49_sum, prim50_any, prim51_all, Pr.need, isEmpty_snoc, Res.bind_ok, Res.bind_bad, Res.bind_exc, SR.of_ok, SR.of_bad, SR.of_exc, SR.then_nx, SR.then_ret, SR.then_brk, SR.then_cnt, SR.then_exc, SR.then_bad, SR.ofO_some, SR.ofO_none, toV_ok, toB_ok, toI_ok, Out.d_val, Out.d_own, putOut_val, putOut_tup, put_nm', put_own', put_tup, putL_nil, putL_cons, free_no, free_val, free_own, free_ro, free_st, free_bor, free_err, rdS_err, evE_isi, isiS_err, evE_callx, pickK_some, evP_isi, evP_callx, evE_truth_isi, evE_truth_callx, evS_wipe, evS_tryc, tryK_exc, tryK_nx, tryK_ret, tryK_brk, tryK_cnt, evHs_cons, suK_some, suiteEnd_ret, suiteEnd_nx, dropE_some, dropS_eq, clear_nil, clear_no, clear_val, clear_own, clear_bor, clear_ro, clear_st, catchE_eq, wipeE_nil, wipeE_cons, put_tupL, evS_stx, stxK_some, setIx_eq, setS_own, setS_bor, popK_own, popK_bor, foOut_val, foOut_own, foOut_exc, recv_scount, recv_sfind, recv_sindex, recv_lcount, methF_scount, methF_sfind, methF_sindex, methF_lcount, prim_inR, evS_augx, augK_some, augG_some, augP_some, getIx_eq, gxS_own, gxS_bor, Option.bind_some, Option.bind_none, hf, c1]; done)
    | (refine fin2w (r := .nx [.val (kD K), .val (.str t)]) ?_ rfl
       generalize kD K = l1 at *
       simp -implicitDefEqProofs [ss_check_tree, at0, atS, ofOut_some, ofOut_none, rdOp_eq, rdS_val, rdS_own, rdS_bor, rdS_ro, rdS_st, vS_val, vS_own, mvS_val, mvS_own, evE_v, evE_mv, evE_k, evE_g, evE_pr, primR_some, evO_nil, evO_cons', evP_rd, evP_v, evP_mv, evP_k, evP_g, evP_pr, evP_chain, evP_and, evP_or, evP_not, evP_ite, evP_slc, evP_meth, evP_call, evP_mu, evP_comp, opds_nil, opds_cons, cons2_some, get_dv, get_sl, getS_own0, getS_own1, getS_bor0, getS_bor1, getS_ro0, getS_ro1, getS_st0, stays_nilR, stays_consR, stay_dv, stay_sl, stS_ro, stS_st, evE_chain, chainR_bl, evE_and, evE_or, evE_not, evE_ite, evE_truth_rd, evE_truth_v, evE_truth_mv, evE_truth_k, evE_truth_g, evE_truth_pr, evE_truth_chain, evE_truth_and, evE_truth_or, evE_truth_not, evE_truth_ite, evE_truth_slc, evE_truth_meth, evE_truth_call, evE_truth_mu, evE_truth_comp, truO_some, truB_some, truD_non, truD_bl, truD_int, truD_str, truD_lst, truD_tup, evE_slc', evB_none, evB_some, slcR_some, slcF_lst, slcF_str, evE_meth', methR_some, recv_index, recv_split, recv_join, methF_index, methF_split, methF_join, evE_call, evE_mu, gSl_own, gSl_bor, muS_lst, muR_eq, muV_lst, muT_some, okE_some, sSl_own, sSl_bor, muL_append, muL_extend, muL_pop, muL_reverse, evE_comp, evC_none, evC_some, evS_set, evS_par, valK_some, valsOf_nil, valsOf_cons, parPut_nil, parPut_cons, evS_aug, augS_val, augT_val, evS_ex, evS_ret, evS_retN, evS_if, evS_for, evS_whl', evS_brk, evS_cnt, evS_pass, evS_rai, evSs_nil, evSs_cons, forR_seq, forR_tup, forR_str, prim1_add, prim2_add, prim3_add, prim4_sub, prim5_mul, prim6_mul, prim7_mul, prim8_fdiv, prim9_mod, prim10_pow, prim11_neg, prim12_eq, prim13_ne, prim14_lt, prim15_le, prim16_gt, prim17_ge, prim18_lt, prim19_le, prim20_gt, prim21_ge, prim22_isin, prim23_notin, prim24_isin, prim25_isin, prim26_notin, prim27_notin, prim28_isN, prim29_notN, prim30_isB, prim31_notB, prim32_ix, prim33_ix, prim34_ix, prim35_tup, prim36_lst, prim37_len, prim38_len, prim39_len, prim40_abs, prim41_int, prim42_int, prim43_int, prim44_ord, prim45_str, prim_repr, prim47_list, prim48_list, prim49_sum, prim50_any, prim51_all, Pr.need, isEmpty_snoc, Res.bind_ok, Res.bind_bad, Res.bind_exc, SR.of_ok, SR.of_bad, SR.of_exc, SR.then_nx, SR.then_ret, SR.then_brk, SR.then_cnt, SR.then_exc, SR.then_bad, SR.ofO_some, SR.ofO_none, toV_ok, toB_ok, toI_ok, Out.d_val, Out.d_own, putOut_val, putOut_tup, put_nm', put_own', put_tup, putL_nil, putL_cons, free_no, free_val, free_own, free_ro, free_st, free_bor, free_err, rdS_err, evE_isi, isiS_err, evE_callx, pickK_some, evP_isi, evP_callx, evE_truth_isi, evE_truth_callx, evS_wipe, evS_tryc, tryK_exc, tryK_nx, tryK_ret, tryK_brk, tryK_cnt, evHs_cons, suK_some, suiteEnd_ret, suiteEnd_nx, dropE_some, dropS_eq, clear_nil, clear_no, clear_val, clear_own, clear_bor, clear_ro, clear_st, catchE_eq, wipeE_nil, wipeE_cons, put_tupL, evS_stx, stxK_some, setIx_eq, setS_own, setS_bor, popK_own, popK_bor, foOut_val, foOut_own, foOut_exc, recv_scount, recv_sfind, recv_sindex, recv_lcount, methF_scount, methF_sfind, methF_sindex, methF_lcount, prim_inR, evS_augx, augK_some, augG_some, augP_some, getIx_eq, gxS_own, gxS_bor, Option.bind_some, Option.bind_none, hf, c1]; done)
theorem call_check_tree {c n : Nat} {K : List Int} {t : List Nat} {e : Ev} (h : okT K t = true) : callR (some (f_check_tree c n)) [.dv (kD K), .dv (.str t)] e = foOut (if isK K then (if isT K t then .val .non else .exc ⟨n, []⟩) else .exc ⟨c, []⟩) e := call_kt h
/-- .. behind check_tree -/
def behT (c n : Nat) (g : List Int → List Nat → FO) : List Int → List Nat → FO := fun K t => if isK K then (if isT K t then g K t else .exc ⟨n, []⟩) else .exc ⟨c, []⟩
def f_size (c n : Nat) : Fn := ⟨[.val, .val], [], kt (behT c n fun _ t => .val (.int (sizF t)))⟩
theorem sem_size {c n f1 f2 : Nat} (h1 : Γ[f1]? = some (f_check_tree c n)) (h2 : Γ[f2]? = some f_size_of) : ∀ ds r, (f_size c n).mf ds = some r → runDef Γ G N_size (f_size c n).modes (ss_size f1 f2) ds = some r := by
  intro ds r h
  simp only [f_size] at h
  obtain ⟨K, t, rfl, ok, rfl⟩ := kt_inv h
  have c1 := fun e => call_check_tree (c := c) (n := n) (e := e) ok
  unfold behT
  cases hk : isK K <;> cases ht : isT K t <;> rw [hk, ht] at c1 <;> first
    | (refine fin2w (r := .exc ⟨c, []⟩ [.val (kD K), .val (.str t)]) ?_ rfl
       generalize kD K = l1 at *
       simp -implicitDefEqProofs [ss_size, at0, atS, ofOut_some, ofOut_none, rdOp_eq, rdS_val, rdS_own, rdS_bor, rdS_ro, rdS_st, vS_val, vS_own, mvS_val, mvS_own, evE_v, evE_mv, evE_k, evE_g, evE_pr, primR_some, evO_nil, evO_cons', evP_rd, evP_v, evP_mv, evP_k, evP_g, evP_pr, evP_chain, evP_and, evP_or, evP_not, evP_ite, evP_slc, evP_meth, evP_call, evP_mu, evP_comp, opds_nil, opds_cons, cons2_some, get_dv, get_sl, getS_own0, getS_own1, getS_bor0, getS_bor1, getS_ro0, getS_ro1, getS_st0, stays_nilR, stays_consR, stay_dv, stay_sl, stS_ro, stS_st, evE_chain, chainR_bl, evE_and, evE_or, evE_not, evE_ite, evE_truth_rd, evE_truth_v, evE_truth_mv, evE_truth_k, evE_truth_g, evE_truth_pr, evE_truth_chain, evE_truth_and, evE_truth_or, evE_truth_not, evE_truth_ite, evE_truth_slc, evE_truth_meth, evE_truth_call, evE_truth_mu, evE_truth_comp, truO_some, truB_some, truD_non, truD_bl, truD_int, truD_str, truD_lst, truD_tup, evE_slc', evB_none, evB_some, slcR_some, slcF_lst, slcF_str, evE_meth', methR_some, recv_index, recv_split, recv_join, methF_index, methF_split, methF_join, evE_call, evE_mu, gSl_own, gSl_bor, muS_lst, muR_eq, muV_lst, muT_some, okE_some, sSl_own, sSl_bor, muL_append, muL_extend, muL_pop, muL_reverse, evE_comp, evC_none, evC_some, evS_set, evS_par, valK_some, valsOf_nil, valsOf_cons, parPut_nil, parPut_cons, evS_aug, augS_val, augT_val, evS_ex, evS_ret, evS_retN, evS_if, evS_for, evS_whl', evS_brk, evS_cnt, evS_pass, evS_rai, evSs_nil, evSs_cons, forR_seq, forR_tup, forR_str, prim1_add, prim2_add, prim3_add, prim4_sub, prim5_mul, prim6_mul, prim7_mul, prim8_fdiv, prim9_mod, prim10_pow, prim11_neg, prim12_eq, prim13_ne, prim14_lt, prim15_le, prim16_gt, prim17_ge, prim18_lt, prim19_le, prim20_gt, prim21_ge, prim22_isin, prim23_notin, prim24_isin, prim25_isin, prim26_notin, prim27_notin, prim28_isN, prim29_notN, prim30_isB, prim31_notB, prim32_ix, prim33_ix, prim34_ix, prim35_tup, prim36_lst, prim37_len, prim38_len, prim39_len, prim40_abs, prim41_int, prim42_int, prim43_int, prim44_ord, prim45_str, prim_repr, prim47_list, prim48_list, prim49_sum, prim50_any, prim51_all, Pr.need, isEmpty_snoc, Res.bind_ok, Res.bind_bad, Res.bind_exc, SR.of_ok, SR.of_bad, SR.of_exc, SR.then_nx, SR.then_ret, SR.then_brk, SR.then_cnt, SR.then_exc, SR.then_bad, SR.ofO_some, SR.ofO_none, toV_ok, toB_ok, toI_ok, Out.d_val, Out.d_own, putOut_val, putOut_tup, put_nm', put_own', put_tup, putL_nil, putL_cons, free_no, free_val, free_own, free_ro, free_st, free_bor, free_err, rdS_err, evE_isi, isiS_err, evE_callx, pickK_some, evP_isi, evP_callx, evE_truth_isi, evE_truth_callx, evS_wipe, evS_tryc, tryK_exc, tryK_nx, tryK_ret, tryK_brk, tryK_cnt, evHs_cons, suK_some, suiteEnd_ret, suiteEnd_nx, dropE_some, dropS_eq, clear_nil, clear_no, clear_val, clear_own, clear_bor, clear_ro, clear_st, catchE_eq, wipeE_nil, wipeE_cons, put_tupL, evS_stx, stxK_some, setIx_eq, setS_own, setS_bor, popK_own, popK_bor, foOut_val, foOut_own, foOut_exc, recv_scount, recv_sfind, recv_sindex, recv_lcount, methF_scount, methF_sfind, methF_sindex, methF_lcount, prim_inR, evS_augx, augK_some, augG_some, augP_some, getIx_eq, gxS_own, gxS_bor, Option.bind_some, Option.bind_none, h1, h2, c1]; done)
    | (refine fin2w (r := .exc ⟨n, []⟩ [.val (kD K), .val (.str t)]) ?_ rfl
       generalize kD K = l1 at *
       simp -implicitDefEqProofs [ss_size, at0, atS, ofOut_some, ofOut_none, rdOp_eq, rdS_val, rdS_own, rdS_bor, rdS_ro, rdS_st, vS_val, vS_own, mvS_val, mvS_own, evE_v, evE_mv, evE_k, evE_g, evE_pr, primR_some, evO_nil, evO_cons', evP_rd, evP_v, evP_mv, evP_k, evP_g, evP_pr, evP_chain, evP_and, evP_or, evP_not, evP_ite, evP_slc, evP_meth, evP_call, evP_mu, evP_comp, opds_nil, opds_cons, cons2_some, get_dv, get_sl, getS_own0, getS_own1, getS_bor0, getS_bor1, getS_ro0, getS_ro1, getS_st0, stays_nilR, stays_consR, stay_dv, stay_sl, stS_ro, stS_st, evE_chain, chainR_bl, evE_and, evE_or, evE_not, evE_ite, evE_truth_rd, evE_truth_v, evE_truth_mv, evE_truth_k, evE_truth_g, evE_truth_pr, evE_truth_chain, evE_truth_and, evE_truth_or, evE_truth_not, evE_truth_ite, evE_truth_slc, evE_truth_meth, evE_truth_call, evE_truth_mu, evE_truth_comp, truO_some, truB_some, truD_non, truD_bl, truD_int, truD_str, truD_lst, truD_tup, evE_slc', evB_none, evB_some, slcR_some, slcF_lst, slcF_str, evE_meth', methR_some, recv_index, recv_split, recv_join, methF_index, methF_split, methF_join, evE_call, evE_mu, gSl_own, gSl_bor, muS_lst, muR_eq, muV_lst, muT_some, okE_some, sSl_own, sSl_bor, muL_append, muL_extend, muL_pop, muL_reverse, evE_comp, evC_none, evC_some, evS_set, evS_par, valK_some, valsOf_nil, valsOf_cons, parPut_nil, parPut_cons, evS_aug, augS_val, augT_val, evS_ex, evS_ret, evS_retN, evS_if, evS_for, evS_whl', evS_brk, evS_cnt, evS_pass, evS_rai, evSs_nil, evSs_cons, forR_seq, forR_tup, forR_str, prim1_add, prim2_add, prim3_add, prim4_sub, prim5_mul, prim6_mul, prim7_mul, prim8_fdiv, prim9_mod, prim10_pow, prim11_neg, prim12_eq, prim13_ne, prim14_lt, prim15_le, prim16_gt, prim17_ge, prim18_lt, prim19_le, prim20_gt, prim21_ge, prim22_isin, prim23_notin, prim24_isin, prim25_isin, prim26_notin, prim27_notin, prim28_isN, prim29_notN, prim30_isB, prim31_notB, prim32_ix, prim33_ix, prim34_ix, prim35_tup, prim36_lst, prim37_len, prim38_len, prim39_len, prim40_abs, prim41_int, prim42_int, prim43_int, prim44_ord, prim45_str, prim_repr, prim47_list, prim48_list, prim49_sum, prim50_any, prim51_all, Pr.need, isEmpty_snoc, Res.bind_ok, Res.bind_bad, Res.bind_exc, SR.of_ok, SR.of_bad, SR.of_exc, SR.then_nx, SR.then_ret, SR.then_brk, SR.then_cnt, SR.then_exc, SR.then_bad, SR.ofO_some, SR.ofO_none, toV_ok, toB_ok, toI_ok, Out.d_val, Out.d_own, putOut_val, putOut_tup, put_nm', put_own', put_tup, putL_nil, putL_cons, free_no, free_val, free_own, free_ro, free_st, free_bor, free_err, rdS_err, evE_isi, isiS_err, evE_callx, pickK_some, evP_isi, evP_callx, evE_truth_isi, evE_truth_callx, evS_wipe, evS_tryc, tryK_exc, tryK_nx, tryK_ret, tryK_brk, tryK_cnt, evHs_cons, suK_some, suiteEnd_ret, suiteEnd_nx, dropE_some, dropS_eq, clear_nil, clear_no, clear_val, clear_own, clear_bor, clear_ro, clear_st, catchE_eq, wipeE_nil, wipeE_cons, put_tupL, evS_stx, stxK_some, setIx_eq, setS_own, setS_bor, popK_own, popK_bor, foOut_val, foOut_own, foOut_exc, recv_scount, recv_sfind, recv_sindex, recv_lcount, methF_scount, methF_sfind, methF_sindex, methF_lcount, prim_inR, evS_augx, augK_some, augG_some, augP_some, getIx_eq, gxS_own, gxS_bor, Option.bind_some, Option.bind_none, h1, h2, c1]; done)
    | (refine fin2w (r := .ret (.val (.int (sizF t))) [.val (kD K), .val (.str t)]) ?_ rfl
       generalize kD K = l1 at *
       simp -implicitDefEqProofs [ss_size, at0, atS, ofOut_some, ofOut_none, rdOp_eq, rdS_val, rdS_own, rdS_bor, rdS_ro, rdS_st, vS_val, vS_own, mvS_val, mvS_own, evE_v, evE_mv, evE_k, evE_g, evE_pr, primR_some, evO_nil, evO_cons', evP_rd, evP_v, evP_mv, evP_k, evP_g, evP_pr, evP_chain, evP_and, evP_or, evP_not, evP_ite, evP_slc, evP_meth, evP_call, evP_mu, evP_comp, opds_nil, opds_cons, cons2_some, get_dv, get_sl, getS_own0, getS_own1, getS_bor0, getS_bor1, getS_ro0, getS_ro1, getS_st0, stays_nilR, stays_consR, stay_dv, stay_sl, stS_ro, stS_st, evE_chain, chainR_bl, evE_and, evE_or, evE_not, evE_ite, evE_truth_rd, evE_truth_v, evE_truth_mv, evE_truth_k, evE_truth_g, evE_truth_pr, evE_truth_chain, evE_truth_and, evE_truth_or, evE_truth_not, evE_truth_ite, evE_truth_slc, evE_truth_meth, evE_truth_call, evE_truth_mu, evE_truth_comp, truO_some, truB_some, truD_non, truD_bl, truD_int, truD_str, truD_lst, truD_tup, evE_slc', evB_none, evB_some, slcR_some, slcF_lst, slcF_str, evE_meth', methR_some, recv_index, recv_split, recv_join, methF_index, methF_split, methF_join, evE_call, evE_mu, gSl_own, gSl_bor, muS_lst, muR_eq, muV_lst, muT_some, okE_some, sSl_own, sSl_bor, muL_append, muL_extend, muL_pop, muL_reverse, evE_comp, evC_none, evC_some, evS_set, evS_par, valK_some, valsOf_nil, valsOf_cons, parPut_nil, parPut_cons, evS_aug, augS_val, augT_val, evS_ex, evS_ret, evS_retN, evS_if, evS_for, evS_whl', evS_brk, evS_cnt, evS_pass, evS_rai, evSs_nil, evSs_cons, forR_seq, forR_tup, forR_str, prim1_add, prim2_add, prim3_add, prim4_sub, prim5_mul, prim6_mul, prim7_mul, prim8_fdiv, prim9_mod, prim10_pow, prim11_neg, prim12_eq, prim13_ne, prim14_lt, prim15_le, prim16_gt, prim17_ge, prim18_lt, prim19_le, prim20_gt, prim21_ge, prim22_isin, prim23_notin, prim24_isin, prim25_isin, prim26_notin, prim27_notin, prim28_isN, prim29_notN, prim30_isB, prim31_notB, prim32_ix, prim33_ix, prim34_ix, prim35_tup, prim36_lst, prim37_len, prim38_len, prim39_len, prim40_abs, prim41_int, prim42_int, prim43_int, prim44_ord, prim45_str, prim_repr, prim47_list, prim48_list, prim49_sum, prim50_any, prim51_all, Pr.need, isEmpty_snoc, Res.bind_ok, Res.bind_bad, Res.bind_exc, SR.of_ok, SR.of_bad, SR.of_exc, SR.then_nx, SR.then_ret, SR.then_brk, SR.then_cnt, SR.then_exc, SR.then_bad, SR.ofO_some, SR.ofO_none, toV_ok, toB_ok, toI_ok, Out.d_val, Out.d_own, putOut_val, putOut_tup, put_nm', put_own', put_tup, putL_nil, putL_cons, free_no, free_val, free_own, free_ro, free_st, free_bor, free_err, rdS_err, evE_isi, isiS_err, evE_callx, pickK_some, evP_isi, evP_callx, evE_truth_isi, evE_truth_callx, evS_wipe, evS_tryc, tryK_exc, tryK_nx, tryK_ret, tryK_brk, tryK_cnt, evHs_cons, suK_some, suiteEnd_ret, suiteEnd_nx, dropE_some, dropS_eq, clear_nil, clear_no, clear_val, clear_own, clear_bor, clear_ro, clear_st, catchE_eq, wipeE_nil, wipeE_cons, put_tupL, evS_stx, stxK_some, setIx_eq, setS_own, setS_bor, popK_own, popK_bor, foOut_val, foOut_own, foOut_exc, recv_scount, recv_sfind, recv_sindex, recv_lcount, methF_scount, methF_sfind, methF_sindex, methF_lcount, prim_inR, evS_augx, augK_some, augG_some, augP_some, getIx_eq, gxS_own, gxS_bor, Option.bind_some, Option.bind_none, h1, h2, c1, call_size_of]; done)
def f_width (c n : Nat) : Fn := ⟨[.val, .val], [], kt (behT c n fun _ t => .val (.int ((t.count 46 : Nat) : Int)))⟩
theorem sem_width {c n f1 g : Nat} (h1 : Γ[f1]? = some (f_check_tree c n)) (hg : G[g]? = some (.str [46])) : ∀ ds r, (f_width c n).mf ds = some r → runDef Γ G N_width (f_width c n).modes (ss_width f1 g) ds = some r := by
  intro ds r h
  simp only [f_width] at h
  obtain ⟨K, t, rfl, ok, rfl⟩ := kt_inv h
  have c1 := fun e => call_check_tree (c := c) (n := n) (e := e) ok
  unfold behT
  cases hk : isK K <;> cases ht : isT K t <;> rw [hk, ht] at c1 <;> first
    | (refine fin2w (r := .exc ⟨c, []⟩ [.val (kD K), .val (.str t)]) ?_ rfl
       generalize kD K = l1 at *
       simp -implicitDefEqProofs [ss_width, at0, atS, ofOut_some, ofOut_none, rdOp_eq, rdS_val, rdS_own, rdS_bor, rdS_ro, rdS_st, vS_val, vS_own, mvS_val, mvS_own, evE_v, evE_mv, evE_k, evE_g, evE_pr, primR_some, evO_nil, evO_cons', evP_rd, evP_v, evP_mv, evP_k, evP_g, evP_pr, evP_chain, evP_and, evP_or, evP_not, evP_ite, evP_slc, evP_meth, evP_call, evP_mu, evP_comp, opds_nil, opds_cons, cons2_some, get_dv, get_sl, getS_own0, getS_own1, getS_bor0, getS_bor1, getS_ro0, getS_ro1, getS_st0, stays_nilR, stays_consR, stay_dv, stay_sl, stS_ro, stS_st, evE_chain, chainR_bl, evE_and, evE_or, evE_not, evE_ite, evE_truth_rd, evE_truth_v, evE_truth_mv, evE_truth_k, evE_truth_g, evE_truth_pr, evE_truth_chain, evE_truth_and, evE_truth_or, evE_truth_not, evE_truth_ite, evE_truth_slc, evE_truth_meth, evE_truth_call, evE_truth_mu, evE_truth_comp, truO_some, truB_some, truD_non, truD_bl, truD_int, truD_str, truD_lst, truD_tup, evE_slc', evB_none, evB_some, slcR_some, slcF_lst, slcF_str, evE_meth', methR_some, recv_index, recv_split, recv_join, methF_index, methF_split, methF_join, evE_call, evE_mu, gSl_own, gSl_bor, muS_lst, muR_eq, muV_lst, muT_some, okE_some, sSl_own, sSl_bor, muL_append, muL_extend, muL_pop, muL_reverse, evE_comp, evC_none, evC_some, evS_set, evS_par, valK_some, valsOf_nil, valsOf_cons, parPut_nil, parPut_cons, evS_aug, augS_val, augT_val, evS_ex, evS_ret, evS_retN, evS_if, evS_for, evS_whl', evS_brk, evS_cnt, evS_pass, evS_rai, evSs_nil, evSs_cons, forR_seq, forR_tup, forR_str, prim1_add, prim2_add, prim3_add, prim4_sub, prim5_mul, prim6_mul, prim7_mul, prim8_fdiv, prim9_mod, prim10_pow, prim11_neg, prim12_eq, prim13_ne, prim14_lt, prim15_le, prim16_gt, prim17_ge, prim18_lt, prim19_le, prim20_gt, prim21_ge, prim22_isin, prim23_notin, prim24_isin, prim25_isin, prim26_notin, prim27_notin, prim28_isN, prim29_notN, prim30_isB, prim31_notB, prim32_ix, prim33_ix, prim34_ix, prim35_tup, prim36_lst, prim37_len, prim38_len, prim39_len, prim40_abs, prim41_int, prim42_int, prim43_int, prim44_ord, prim45_str, prim_repr, prim47_list, prim48_list, prim49_sum, prim50_any, prim51_all, Pr.need, isEmpty_snoc, Res.bind_ok, Res.bind_bad, Res.bind_exc, SR.of_ok, SR.of_bad, SR.of_exc, SR.then_nx, SR.then_ret, SR.then_brk, SR.then_cnt, SR.then_exc, SR.then_bad, SR.ofO_some, SR.ofO_none, toV_ok, toB_ok, toI_ok, Out.d_val, Out.d_own, putOut_val, putOut_tup, put_nm', put_own', put_tup, putL_nil, putL_cons, free_no, free_val, free_own, free_ro, free_st, free_bor, free_err, rdS_err, evE_isi, isiS_err, evE_callx, pickK_some, evP_isi, evP_callx, evE_truth_isi, evE_truth_callx, evS_wipe, evS_tryc, tryK_exc, tryK_nx, tryK_ret, tryK_brk, tryK_cnt, evHs_cons, suK_some, suiteEnd_ret, suiteEnd_nx, dropE_some, dropS_eq, clear_nil, clear_no, clear_val, clear_own, clear_bor, clear_ro, clear_st, catchE_eq, wipeE_nil, wipeE_cons, put_tupL, evS_stx, stxK_some, setIx_eq, setS_own, setS_bor, popK_own, popK_bor, foOut_val, foOut_own, foOut_exc, recv_scount, recv_sfind, recv_sindex, recv_lcount, methF_scount, methF_sfind, methF_sindex, methF_lcount, prim_inR, evS_augx, augK_some, augG_some, augP_some, getIx_eq, gxS_own, gxS_bor, Option.bind_some, Option.bind_none, h1, hg, c1]; done)
    | (refine fin2w (r := .exc ⟨n, []⟩ [.val (kD K), .val (.str t)]) ?_ rfl
       generalize kD K = l1 at *
       simp -implicitDefEqProofs [ss_width, at0, atS, ofOut_some, ofOut_none, rdOp_eq, rdS_val, rdS_own, rdS_bor, rdS_ro, rdS_st, vS_val, vS_own, mvS_val, mvS_own, evE_v, evE_mv, evE_k, evE_g, evE_pr, primR_some, evO_nil, evO_cons', evP_rd, evP_v, evP_mv, evP_k, evP_g, evP_pr, evP_chain, evP_and, evP_or, evP_not, evP_ite, evP_slc, evP_meth, evP_call, evP_mu, evP_comp, opds_nil, opds_cons, cons2_some, get_dv, get_sl, getS_own0, getS_own1, getS_bor0, getS_bor1, getS_ro0, getS_ro1, getS_st0, stays_nilR, stays_consR, stay_dv, stay_sl, stS_ro, stS_st, evE_chain, chainR_bl, evE_and, evE_or, evE_not, evE_ite, evE_truth_rd, evE_truth_v, evE_truth_mv, evE_truth_k, evE_truth_g, evE_truth_pr, evE_truth_chain, evE_truth_and, evE_truth_or, evE_truth_not, evE_truth_ite, evE_truth_slc, evE_truth_meth, evE_truth_call, evE_truth_mu, evE_truth_comp, truO_some, truB_some, truD_non, truD_bl, truD_int, truD_str, truD_lst, truD_tup, evE_slc', evB_none, evB_some, slcR_some, slcF_lst, slcF_str, evE_meth', methR_some, recv_index, recv_split, recv_join, methF_index, methF_split, methF_join, evE_call, evE_mu, gSl_own, gSl_bor, muS_lst, muR_eq, muV_lst, muT_some, okE_some, sSl_own, sSl_bor, muL_append, muL_extend, muL_pop, muL_reverse, evE_comp, evC_none, evC_some, evS_set, evS_par, valK_some, valsOf_nil, valsOf_cons, parPut_nil, parPut_cons, evS_aug, augS_val, augT_val, evS_ex, evS_ret, evS_retN, evS_if, evS_for, evS_whl', evS_brk, evS_cnt, evS_pass, evS_rai, evSs_nil, evSs_cons, forR_seq, forR_tup, forR_str, prim1_add, prim2_add, prim3_add, prim4_sub, prim5_mul, prim6_mul, prim7_mul, prim8_fdiv, prim9_mod, prim10_pow, prim11_neg, prim12_eq, prim13_ne, prim14_lt, prim15_le, prim16_gt, prim17_ge, prim18_lt, prim19_le, prim20_gt, prim21_ge, prim22_isin, prim23_notin, prim24_isin, prim25_isin, prim26_notin, prim27_notin, prim28_isN, prim29_notN, prim30_isB, prim31_notB, prim32_ix, prim33_ix, prim34_ix, prim35_tup, prim36_lst, prim37_len, prim38_len, prim39_len, prim40_abs, prim41_int, prim42_int, prim43_int, prim44_ord, prim45_str, prim_repr, prim47_list, prim48_list, prim49_sum, prim50_any, prim51_all, Pr.need, isEmpty_snoc, Res.bind_ok, Res.bind_bad, Res.bind_exc, SR.of_ok, SR.of_bad, SR.of_exc, SR.then_nx, SR.then_ret, SR.then_brk, SR.then_cnt, SR.then_exc, SR.then_bad, SR.ofO_some, SR.ofO_none, toV_ok, toB_ok, toI_ok, Out.d_val, Out.d_own, putOut_val, putOut_tup, put_nm', put_own', put_tup, putL_nil, putL_cons, free_no, free_val, free_own, free_ro, free_st, free_bor, free_err, rdS_err, evE_isi, isiS_err, evE_callx, pickK_some, evP_isi, evP_callx, evE_truth_isi, evE_truth_callx, evS_wipe, evS_tryc, tryK_exc, tryK_nx, tryK_ret, tryK_brk, tryK_cnt, evHs_cons, suK_some, suiteEnd_ret, suiteEnd_nx, dropE_some, dropS_eq, clear_nil, clear_no, clear_val, clear_own, clear_bor, clear_ro, clear_st, catchE_eq, wipeE_nil, wipeE_cons, put_tupL, evS_stx, stxK_some, setIx_eq, setS_own, setS_bor, popK_own, popK_bor, foOut_val, foOut_own, foOut_exc, recv_scount, recv_sfind, recv_sindex, recv_lcount, methF_scount, methF_sfind, methF_sindex, methF_lcount, prim_inR, evS_augx, augK_some, augG_some, augP_some, getIx_eq, gxS_own, gxS_bor, Option.bind_some, Option.bind_none, h1, hg, c1]; done)
    | (refine fin2w (r := .ret (.val (.int ((t.count 46 : Nat) : Int))) [.val (kD K), .val (.str t)]) ?_ rfl
       generalize kD K = l1 at *
       simp -implicitDefEqProofs [ss_width, at0, atS, ofOut_some, ofOut_none, rdOp_eq, rdS_val, rdS_own, rdS_bor, rdS_ro, rdS_st, vS_val, vS_own, mvS_val, mvS_own, evE_v, evE_mv, evE_k, evE_g, evE_pr, primR_some, evO_nil, evO_cons', evP_rd, evP_v, evP_mv, evP_k, evP_g, evP_pr, evP_chain, evP_and, evP_or, evP_not, evP_ite, evP_slc, evP_meth, evP_call, evP_mu, evP_comp, opds_nil, opds_cons, cons2_some, get_dv, get_sl, getS_own0, getS_own1, getS_bor0, getS_bor1, getS_ro0, getS_ro1, getS_st0, stays_nilR, stays_consR, stay_dv, stay_sl, stS_ro, stS_st, evE_chain, chainR_bl, evE_and, evE_or, evE_not, evE_ite, evE_truth_rd, evE_truth_v, evE_truth_mv, evE_truth_k, evE_truth_g, evE_truth_pr, evE_truth_chain, evE_truth_and, evE_truth_or, evE_truth_not, evE_truth_ite, evE_truth_slc, evE_truth_meth, evE_truth_call, evE_truth_mu, evE_truth_comp, truO_some, truB_some, truD_non, truD_bl, truD_int, truD_str, truD_lst, truD_tup, evE_slc', evB_none, evB_some, slcR_some, slcF_lst, slcF_str, evE_meth', methR_some, recv_index, recv_split, recv_join, methF_index, methF_split, methF_join, evE_call, evE_mu, gSl_own, gSl_bor, muS_lst, muR_eq, muV_lst, muT_some, okE_some, sSl_own, sSl_bor, muL_append, muL_extend, muL_pop, muL_reverse, evE_comp, evC_none, evC_some, evS_set, evS_par, valK_some, valsOf_nil, valsOf_cons, parPut_nil, parPut_cons, evS_aug, augS_val, augT_val, evS_ex, evS_ret, evS_retN, evS_if, evS_for, evS_whl', evS_brk, evS_cnt, evS_pass, evS_rai, evSs_nil, evSs_cons, forR_seq, forR_tup, forR_str, prim1_add, prim2_add, prim3_add, prim4_sub, prim5_mul, prim6_mul, prim7_mul, prim8_fdiv, prim9_mod, prim10_pow, prim11_neg, prim12_eq, prim13_ne, prim14_lt, prim15_le, prim16_gt, prim17_ge, prim18_lt, prim19_le, prim20_gt, prim21_ge, prim22_isin, prim23_notin, prim24_isin, prim25_isin, prim26_notin, prim27_notin, prim28_isN, prim29_notN, prim30_isB, prim31_notB, prim32_ix, prim33_ix, prim34_ix, prim35_tup, prim36_lst, prim37_len, prim38_len, prim39_len, prim40_abs, prim41_int, prim42_int, prim43_int, prim44_ord, prim45_str, prim_repr, prim47_list, prim48_list, prim49_sum, prim50_any, prim51_all, Pr.need, isEmpty_snoc, Res.bind_ok, Res.bind_bad, Res.bind_exc, SR.of_ok, SR.of_bad, SR.of_exc, SR.then_nx, SR.then_ret, SR.then_brk, SR.then_cnt, SR.then_exc, SR.then_bad, SR.ofO_some, SR.ofO_none, toV_ok, toB_ok, toI_ok, Out.d_val, Out.d_own, putOut_val, putOut_tup, put_nm', put_own', put_tup, putL_nil, putL_cons, free_no, free_val, free_own, free_ro, free_st, free_bor, free_err, rdS_err, evE_isi, isiS_err, evE_callx, pickK_some, evP_isi, evP_callx, evE_truth_isi, evE_truth_callx, evS_wipe, evS_tryc, tryK_exc, tryK_nx, tryK_ret, tryK_brk, tryK_cnt, evHs_cons, suK_some, suiteEnd_ret, suiteEnd_nx, dropE_some, dropS_eq, clear_nil, clear_no, clear_val, clear_own, clear_bor, clear_ro, clear_st, catchE_eq, wipeE_nil, wipeE_cons, put_tupL, evS_stx, stxK_some, setIx_eq, setS_own, setS_bor, popK_own, popK_bor, foOut_val, foOut_own, foOut_exc, recv_scount, recv_sfind, recv_sindex, recv_lcount, methF_scount, methF_sfind, methF_sindex, methF_lcount, prim_inR, evS_augx, augK_some, augG_some, augP_some, getIx_eq, gxS_own, gxS_bor, Option.bind_some, Option.bind_none, h1, hg, c1]; done)
end
end Gw

set_option Elab.async false
set_option linter.all false
set_option maxRecDepth 100000
namespace K10
open Mini
/-! ### _law_kinds: 0 _law_draws_here -/
def N__law_kinds : Nat := 1
def ss__law_kinds (f__law_next : Nat) : List S :=
  [.ret (.pr .ix [(.pr .lst [(.pr .tup [(.k (.int 2))]), (.pr .tup [(.k (.int 2)), (.k (.int 2))]), (.pr .tup [(.k (.int 3))]), (.pr .tup [(.k (.int 2)), (.k (.int 3))]), (.pr .tup [(.k (.int 3)), (.k (.int 2))]), (.pr .tup [(.k (.int 2)), (.k (.int 2)), (.k (.int 2))]), (.pr .tup [(.k (.int 3)), (.k (.int 2)), (.k (.int 2))]), (.pr .tup [(.k (.int 2)), (.k (.int 3)), (.k (.int 3))])]), (.pr .mod [(.pr .int [(.call f__law_next [(.rd 0)])]), (.k (.int 8))])])]
/-! ### _law_dots: 0 _law_tree_here, 1 _law_at -/
def N__law_dots : Nat := 2
def ss__law_dots : List S :=
  [.ret (.comp [1] (.nm 1) .rng1 [(.pr .len [(.rd 0)])] (some (.pr .eq [(.pr .ix [(.rd 0), (.rd 1)]), (.k (.str [46]))])) (.v 1))]
/-! ### _law_letters: 0 _law_tree_here, 1 _law_at -/
def N__law_letters : Nat := 2
def ss__law_letters : List S :=
  [.ret (.comp [1] (.nm 1) .rng1 [(.pr .len [(.rd 0)])] (some (.pr .ne [(.pr .ix [(.rd 0), (.rd 1)]), (.k (.str [46]))])) (.v 1))]
/-! ### _law_grown: 0 _law_draws_here, 1 _law_kinds_here, 2 _law_count, 3 _law_tree_here, 4 _law_j, 5 _law_dots_here, 6 _law_at, 7 _law_letter -/
def N__law_grown : Nat := 8
def bd__law_grown_1 (f__law_dots : Nat) (f__law_next : Nat) : List S :=
  [.set (.nm 5) (.call f__law_dots [(.v 3)]),
  .set (.nm 6) (.pr .ix [(.rd 5), (.pr .mod [(.pr .int [(.call f__law_next [(.rd 0)])]), (.pr .len [(.rd 5)])])]),
  .set (.nm 7) (.pr .mod [(.pr .int [(.call f__law_next [(.rd 0)])]), (.pr .len [(.rd 1)])]),
  .set (.nm 3) (.pr .add [(.pr .add [(.pr .add [(.slc (.rd 3) none (some (.v 6))), (.pr .ix [(.k (.str [97, 98, 99])), (.rd 7)])]), (.pr .mul [(.k (.str [46])), (.pr .ix [(.rd 1), (.rd 7)])])]), (.slc (.rd 3) (some (.pr .add [(.rd 6), (.k (.int 1))])) none)]),
  .wipe [4, 5, 6, 7]]
def ss__law_grown (f__law_dots : Nat) (f__law_next : Nat) : List S :=
  [.set (.nm 3) (.k (.str [46])),
  .wipe [5, 6, 7],
  .for_ (.nm 4) .rng1 [(.v 2)] (bd__law_grown_1 f__law_dots f__law_next),
  .ret (.mv 3)]
/-! ### _law_tree: 0 _law_draws_here, 1 _law_kinds_here, 2 _law_most -/
def N__law_tree : Nat := 3
def ss__law_tree (f__law_grown : Nat) (f__law_next : Nat) : List S :=
  [.ret (.call f__law_grown [(.rd 0), (.v 1), (.pr .mod [(.pr .int [(.call f__law_next [(.rd 0)])]), (.pr .add [(.rd 2), (.k (.int 1))])])])]
/-! ### _law_end: 0 _law_kinds_here, 1 _law_tree_here, 2 _law_begin, 3 _law_wanted, 4 _law_index -/
def N__law_end : Nat := 5
def bd__law_end_1 : List S :=
  [.if_ (.pr .eq [(.pr .ix [(.rd 1), (.rd 4)]), (.k (.str [46]))])
    [.set (.nm 3) (.pr .sub [(.rd 3), (.k (.int 1))])]
    [.if_ (.pr .isin [(.pr .ix [(.rd 1), (.rd 4)]), (.slc (.k (.str [97, 98, 99])) none (some (.pr .len [(.rd 0)])))])
      [.set (.nm 3) (.pr .sub [(.pr .add [(.rd 3), (.pr .ix [(.rd 0), (.meth .sindex (.k (.str [97, 98, 99])) [(.pr .ix [(.rd 1), (.rd 4)])])])]), (.k (.int 1))])]
      [.ret (.pr .neg [(.k (.int 1))])]],
  .if_ (.pr .eq [(.rd 3), (.k (.int 0))])
    [.ret (.pr .add [(.rd 4), (.k (.int 1))])]
    [],
  .wipe [4]]
def ss__law_end : List S :=
  [.set (.nm 3) (.k (.int 1)),
  .for_ (.nm 4) .rng2 [(.v 2), (.pr .len [(.rd 1)])] bd__law_end_1,
  .wipe [3],
  .ret (.pr .neg [(.k (.int 1))])]
/-! ### _law_kind: 0 _law_error, 1 _law_kinds_here -/
def N__law_kind : Nat := 2
def ss__law_kind (c_NotKinds : Nat) (u_NotKinds : List Nat) (c_NotTree : Nat) (u_NotTree : List Nat) (c_BadNumber : Nat) (u_BadNumber : List Nat) (c_TooLarge : Nat) (u_TooLarge : List Nat) (c_NoAnswer : Nat) (u_NoAnswer : List Nat) (c_GraftError : Nat) (u_GraftError : List Nat) : List S :=
  [.set (.nm 1) (.pr .lst [(.isi 0 c_NotKinds u_NotKinds), (.isi 0 c_NotTree u_NotTree), (.isi 0 c_BadNumber u_BadNumber)]),
  .set (.nm 1) (.pr .add [(.rd 1), (.pr .lst [(.isi 0 c_TooLarge u_TooLarge), (.isi 0 c_NoAnswer u_NoAnswer)])]),
  .if_ (.and (.pr .eq [(.meth .lcount (.rd 1) [(.k (.bl true))]), (.k (.int 1))]) (.truth (.isi 0 c_GraftError u_GraftError)))
    [.ret (.pr .add [(.k (.str [33])), (.pr .ix [(.pr .lst [(.k (.str [107, 105, 110, 100, 115])), (.k (.str [116, 114, 101, 101])), (.k (.str [110, 117, 109, 98, 101, 114])), (.k (.str [108, 97, 114, 103, 101])), (.k (.str [97, 110, 115, 119, 101, 114]))]), (.meth .index (.rd 1) [(.k (.bl true))])])])]
    [],
  .ret (.k (.str [33, 111, 116, 104, 101, 114]))]
/-! ### _law_told: 0 _law_way, 1 _law_kinds_here, 2 _law_tree_here, 3 _law_error -/
def N__law_told : Nat := 4
def ss__law_told (f_check_kinds : Nat) (f_is_tree : Nat) (f_check_tree : Nat) (f_size : Nat) (f_width : Nat) (u_GraftError : List Nat) (f__law_kind : Nat) : List S :=
  [.tryc
    [.if_ (.pr .eq [(.rd 0), (.k (.int 0))])
      [.ret (.call f_check_kinds [(.v 1)])]
      [],
    .ret (.callx [f_is_tree, f_check_tree, f_size, f_width] (.pr .sub [(.rd 0), (.k (.int 1))]) [(.v 1), (.v 2)])]
    [(u_GraftError, some 3)]
    [[.ret (.call f__law_kind [(.rd 3)])]]]
/-! ### _law_spoilt: 0 _law_draws_here, 1 _law_tree_here, 2 _law_at, 3 _law_sign, 4 _law_kind_here -/
def N__law_spoilt : Nat := 5
def ss__law_spoilt (f__law_next : Nat) : List S :=
  [.set (.nm 2) (.pr .mod [(.pr .int [(.call f__law_next [(.rd 0)])]), (.pr .add [(.pr .len [(.rd 1)]), (.k (.int 1))])]),
  .set (.nm 3) (.pr .ix [(.k (.str [46, 97, 98, 99, 65, 45])), (.pr .mod [(.pr .int [(.call f__law_next [(.rd 0)])]), (.k (.int 6))])]),
  .set (.nm 4) (.pr .mod [(.pr .int [(.call f__law_next [(.rd 0)])]), (.k (.int 4))]),
  .if_ (.pr .eq [(.rd 4), (.k (.int 0))])
    [.ret (.pr .add [(.pr .add [(.slc (.rd 1) none (some (.v 2))), (.rd 3)]), (.slc (.rd 1) (some (.v 2)) none)])]
    [],
  .if_ (.pr .eq [(.rd 4), (.k (.int 1))])
    [.ret (.pr .add [(.pr .add [(.slc (.rd 1) none (some (.v 2))), (.rd 3)]), (.slc (.rd 1) (some (.pr .add [(.rd 2), (.k (.int 1))])) none)])]
    [],
  .if_ (.pr .eq [(.rd 4), (.k (.int 2))])
    [.ret (.pr .add [(.slc (.rd 1) none (some (.v 2))), (.slc (.rd 1) (some (.pr .add [(.rd 2), (.k (.int 1))])) none)])]
    [],
  .ret (.mv 1)]
/-! ### _law_is_tree: 0 _law_kinds_here, 1 _law_tree_here -/
def N__law_is_tree : Nat := 2
def ss__law_is_tree (f__law_letters : Nat) (f__law_end : Nat) : List S :=
  [.ret (.and (.pr .ne [(.rd 1), (.k (.str []))]) (.and (.pr .eq [(.call f__law_end [(.v 0), (.v 1), (.k (.int 0))]), (.pr .len [(.rd 1)])]) (.and (.pr .lt [(.pr .len [(.call f__law_letters [(.v 1)])]), (.k (.int 10))]) (.pr .lt [(.meth .scount (.rd 1) [(.k (.str [46]))]), (.k (.int 15))]))))]
/-! ### law: 0 _law_script, 1 _law_draws_here, 2 _law_kinds_here, 3 _law_tree_here, 4 _law_long, 5 _law_text, 6 _law_due, 7 _law_wrong, 8 _law_way -/
def N_law : Nat := 9
def bd_law_1 (f__law_draws : Nat) (f__law_kinds : Nat) (f__law_tree : Nat) (f__law_spoilt : Nat) (f__law_is_tree : Nat) (f__law_told : Nat) (f__law_letters : Nat) (f_is_kinds : Nat) (f__law_next : Nat) : List S :=
  [.set (.nm 6) (.call f__law_is_tree [(.v 2), (.v 5)]),
  .if_ (.or (.pr .ne [(.pr .repr [(.call f__law_told [(.k (.int 1)), (.v 2), (.v 5)])]), (.pr .repr [(.rd 6)])]) (.pr .ne [(.pr .repr [(.call f__law_told [(.k (.int 2)), (.v 2), (.v 5)])]), (.pr .repr [(.ite (.truth (.rd 6)) (.k .non) (.k (.str [33, 116, 114, 101, 101])))])]))
    [.ret (.k (.bl false))]
    [],
  .if_ (.pr .ne [(.pr .repr [(.call f__law_told [(.k (.int 3)), (.v 2), (.v 5)])]), (.pr .repr [(.ite (.truth (.rd 6)) (.pr .len [(.call f__law_letters [(.v 5)])]) (.k (.str [33, 116, 114, 101, 101])))])])
    [.ret (.k (.bl false))]
    [],
  .if_ (.pr .ne [(.pr .repr [(.call f__law_told [(.k (.int 4)), (.v 2), (.v 5)])]), (.pr .repr [(.ite (.truth (.rd 6)) (.meth .scount (.rd 5) [(.k (.str [46]))]) (.k (.str [33, 116, 114, 101, 101])))])])
    [.ret (.k (.bl false))]
    [],
  .wipe [5, 6]]
def ss_law (f__law_draws : Nat) (f__law_kinds : Nat) (f__law_tree : Nat) (f__law_spoilt : Nat) (f__law_is_tree : Nat) (f__law_told : Nat) (f__law_letters : Nat) (f_is_kinds : Nat) (f__law_next : Nat) : List S :=
  [.set (.nm 1) (.call f__law_draws [(.rd 0)]),
  .ex (.mu .reverse 1 []),
  .set (.nm 2) (.call f__law_kinds [(.rd 1)]),
  .set (.nm 3) (.call f__law_tree [(.rd 1), (.v 2), (.k (.int 6))]),
  .set (.nm 4) (.pr .lst [(.pr .add [(.pr .mul [(.k (.str [97])), (.k (.int 9))]), (.pr .mul [(.k (.str [46])), (.k (.int 10))])]), (.pr .add [(.pr .mul [(.k (.str [97])), (.k (.int 10))]), (.pr .mul [(.k (.str [46])), (.k (.int 11))])]), (.pr .add [(.pr .mul [(.k (.str [97])), (.k (.int 6))]), (.pr .mul [(.k (.str [46])), (.k (.int 13))])]), (.pr .add [(.pr .mul [(.k (.str [97])), (.k (.int 7))]), (.pr .mul [(.k (.str [46])), (.k (.int 15))])]), (.pr .add [(.pr .mul [(.k (.str [98])), (.k (.int 6))]), (.pr .mul [(.k (.str [46])), (.k (.int 13))])]), (.k (.str []))]),
  .wipe [6],
  .for_ (.nm 5) .seq [(.pr .add [(.pr .lst [(.v 3), (.call f__law_spoilt [(.rd 1), (.v 3)]), (.call f__law_spoilt [(.rd 1), (.call f__law_spoilt [(.rd 1), (.v 3)])])]), (.rd 4)])] (bd_law_1 f__law_draws f__law_kinds f__law_tree f__law_spoilt f__law_is_tree f__law_told f__law_letters f_is_kinds f__law_next),
  .if_ (.or (.pr .notB [(.call f_is_kinds [(.v 2)]), (.k (.bl true))]) (.pr .notN [(.call f__law_told [(.k (.int 0)), (.v 2), (.v 3)])]))
    [.ret (.k (.bl false))]
    [],
  .set (.nm 7) (.pr .ix [(.pr .lst [(.pr .tup []), (.pr .tup [(.k (.int 1))]), (.pr .tup [(.k (.int 2)), (.k (.int 4))]), (.pr .tup [(.k (.int 2)), (.k (.int 2)), (.k (.int 2)), (.k (.int 2))]), (.pr .tup [(.k (.int 0))]), (.pr .tup [(.pr .neg [(.k (.int 2))])]), (.pr .tup [(.k (.int 2)), (.k (.int 3)), (.k (.int 1))])]), (.pr .mod [(.pr .int [(.call f__law_next [(.rd 1)])]), (.k (.int 7))])]),
  .ret (.and (.pr .isB [(.call f_is_kinds [(.v 7)]), (.k (.bl false))]) (.pr .all [(.comp [8] (.nm 8) .rng1 [(.k (.int 5))] none (.pr .eq [(.call f__law_told [(.v 8), (.v 7), (.k (.str [63]))]), (.k (.str [33, 107, 105, 110, 100, 115]))]))]))]
end K10

set_option Elab.async false
set_option linter.all false
set_option maxRecDepth 100000
namespace K10
open Mini Gw Gc
/-! ### picks by a drawn number -/
theorem fmod_range (n : Int) {m : Int} (h : 0 < m) : 0 ≤ n.fmod m ∧ n.fmod m < m := ⟨Int.fmod_nonneg_of_pos n h, Int.fmod_lt_of_pos n h⟩
theorem pickM {α : Type} (f : α → D) (L : List α) (n : Int) {m : Int} (hm : m = L.length) (h0 : 0 < m) (d : α) : atI (L.map f) (n.fmod m) = some (f (L.getD (n.fmod m).toNat d)) := by
  have r := fmod_range n h0
  obtain ⟨k, hk⟩ := Int.eq_ofNat_of_zero_le r.1
  rw [hk]
  have hl : k < L.length := by omega
  refine Mini.atI_nat ?_
  rw [List.getElem?_map, List.getElem?_eq_getElem hl, Int.toNat_natCast, List.getD_eq_getElem?_getD, List.getElem?_eq_getElem hl]
  rfl
theorem pickS (L : List Nat) (n : Int) {m : Int} (hm : m = L.length) (h0 : 0 < m) : atI L (n.fmod m) = some (L.getD (n.fmod m).toNat 0) := by
  have r := fmod_range n h0
  obtain ⟨k, hk⟩ := Int.eq_ofNat_of_zero_le r.1
  rw [hk]
  have hl : k < L.length := by omega
  refine Mini.atI_nat ?_
  rw [List.getElem?_eq_getElem hl, Int.toNat_natCast, List.getD_eq_getElem?_getD, List.getElem?_eq_getElem hl]
  rfl
theorem cut_take {α : Type} (xs : List α) (k : Nat) : Mini.cut xs none (some (k : Int)) = xs.take k := by
  have e : sIx xs.length xs.length (some (k : Int)) = min k xs.length := by
    show (if (k : Int) < 0 then ((k : Int) + (xs.length : Int)).toNat else min (k : Int).toNat xs.length) = _
    rw [if_neg (by omega), Int.toNat_natCast]
  have e2 : sIx xs.length 0 none = 0 := rfl
  unfold Mini.cut
  rw [e, e2, List.drop_zero, Nat.sub_zero]
  by_cases h : k ≤ xs.length
  · rw [Nat.min_eq_left h]
  · rw [Nat.min_eq_right (by omega), List.take_of_length_le (Nat.le_refl _), List.take_of_length_le (by omega)]
theorem cut_drop {α : Type} (xs : List α) (k : Nat) : Mini.cut xs (some (k : Int)) none = xs.drop k := by
  have e : sIx xs.length 0 (some (k : Int)) = min k xs.length := by
    show (if (k : Int) < 0 then ((k : Int) + (xs.length : Int)).toNat else min (k : Int).toNat xs.length) = _
    rw [if_neg (by omega), Int.toNat_natCast]
  have e2 : sIx xs.length xs.length none = xs.length := rfl
  unfold Mini.cut
  rw [e, e2]
  by_cases h : k ≤ xs.length
  · rw [Nat.min_eq_left h, List.take_of_length_le (by rw [List.length_drop]; omega)]
  · rw [Nat.min_eq_right (by omega), List.drop_eq_nil_of_le (Nat.le_refl _), List.drop_eq_nil_of_le (by omega), List.take_nil]
/-! ### _law_kinds -/
def kindsL : List (List Int) := [[2], [2, 2], [3], [2, 3], [3, 2], [2, 2, 2], [3, 2, 2], [2, 3, 3]]
def kindF (n : Int) : List Int := kindsL.getD (n.fmod 8).toNat []
theorem kindF_mem (n : Int) : kindF n ∈ kindsL := by
  have r := fmod_range n (show (0 : Int) < 8 by decide)
  have hl : (n.fmod 8).toNat < kindsL.length := by show _ < 8; omega
  unfold kindF
  rw [List.getD_eq_getElem?_getD, List.getElem?_eq_getElem hl]
  exact List.getElem_mem hl
def f__law_kinds : Fn := popFn 0 fun ns vs => match vs with
  | [] => some (.val (kD (kindF (nextF ns).1)), (nextF ns).2)
  | _ => none
theorem sem__law_kinds {Γ : List Fn} {G : List D} {f : Nat} (hf : Γ[f]? = some f__law_next) : ∀ ds r, f__law_kinds.mf ds = some r → runDef Γ G N__law_kinds f__law_kinds.modes (ss__law_kinds f) ds = some r := by
  refine popFn_sem fun ns vs r h => ?_
  split at h
  · cases h
    have s1 : 1 ≤ SZ := by decide
    have s2 : 2 ≤ SZ := by decide
    have s3 : 3 ≤ SZ := by decide
    have s8 : 8 ≤ SZ := by decide
    have d8 : divOk 8 = true := by decide
    have key := pickM kD kindsL (nextF ns).1 (m := 8) rfl (by decide) []
    change atI (kindsL.map kD) _ = some (kD (kindF (nextF ns).1)) at key
    simp only [kindsL, kD, List.map_cons, List.map_nil] at key
    simp [runDef, leave, backs, enter, f__law_kinds, popFn, N__law_kinds, ss__law_kinds, at0, atS, ofOut_some, ofOut_none, rdOp_eq, rdS_val, rdS_own, rdS_bor, rdS_ro, rdS_st, vS_val, vS_own, mvS_val, mvS_own, evE_v, evE_mv, evE_k, evE_g, evE_pr, primR_some, evO_nil, evO_cons', evP_rd, evP_v, evP_mv, evP_k, evP_g, evP_pr, evP_chain, evP_and, evP_or, evP_not, evP_ite, evP_slc, evP_meth, evP_call, evP_mu, evP_comp, opds_nil, opds_cons, cons2_some, get_dv, get_sl, getS_own0, getS_own1, getS_bor0, getS_bor1, getS_ro0, getS_ro1, getS_st0, stays_nilR, stays_consR, stay_dv, stay_sl, stS_ro, stS_st, evE_chain, chainR_bl, evE_and, evE_or, evE_not, evE_ite, evE_truth_rd, evE_truth_v, evE_truth_mv, evE_truth_k, evE_truth_g, evE_truth_pr, evE_truth_chain, evE_truth_and, evE_truth_or, evE_truth_not, evE_truth_ite, evE_truth_slc, evE_truth_meth, evE_truth_call, evE_truth_mu, evE_truth_comp, truO_some, truB_some, truD_non, truD_bl, truD_int, truD_str, truD_lst, truD_tup, evE_slc', evB_none, evB_some, slcR_some, slcF_lst, slcF_str, evE_meth', methR_some, recv_index, recv_split, recv_join, methF_index, methF_split, methF_join, evE_call, evE_mu, gSl_own, gSl_bor, muS_lst, muR_eq, muV_lst, muT_some, okE_some, sSl_own, sSl_bor, muL_append, muL_extend, muL_pop, muL_reverse, evE_comp, evC_none, evC_some, evS_set, evS_par, valK_some, valsOf_nil, valsOf_cons, parPut_nil, parPut_cons, evS_aug, augS_val, augT_val, evS_ex, evS_ret, evS_retN, evS_if, evS_for, evS_whl', evS_brk, evS_cnt, evS_pass, evS_rai, evSs_nil, evSs_cons, forR_seq, forR_tup, forR_str, prim1_add, prim2_add, prim3_add, prim4_sub, prim5_mul, prim6_mul, prim7_mul, prim8_fdiv, prim9_mod, prim10_pow, prim11_neg, prim12_eq, prim13_ne, prim14_lt, prim15_le, prim16_gt, prim17_ge, prim18_lt, prim19_le, prim20_gt, prim21_ge, prim22_isin, prim23_notin, prim24_isin, prim25_isin, prim26_notin, prim27_notin, prim28_isN, prim29_notN, prim30_isB, prim31_notB, prim32_ix, prim33_ix, prim34_ix, prim35_tup, prim36_lst, prim37_len, prim38_len, prim39_len, prim40_abs, prim41_int, prim42_int, prim43_int, prim44_ord, prim45_str, prim_repr, prim47_list, prim48_list, prim49_sum, prim50_any, prim51_all, Pr.need, isEmpty_snoc, Res.bind_ok, Res.bind_bad, Res.bind_exc, SR.of_ok, SR.of_bad, SR.of_exc, SR.then_nx, SR.then_ret, SR.then_brk, SR.then_cnt, SR.then_exc, SR.then_bad, SR.ofO_some, SR.ofO_none, toV_ok, toB_ok, toI_ok, Out.d_val, Out.d_own, putOut_val, putOut_tup, put_nm', put_own', put_tup, putL_nil, putL_cons, free_no, free_val, free_own, free_ro, free_st, free_bor, free_err, rdS_err, evE_isi, isiS_err, evE_callx, pickK_some, evP_isi, evP_callx, evE_truth_isi, evE_truth_callx, evS_wipe, evS_tryc, tryK_exc, tryK_nx, tryK_ret, tryK_brk, tryK_cnt, evHs_cons, suK_some, suiteEnd_ret, suiteEnd_nx, dropE_some, dropS_eq, clear_nil, clear_no, clear_val, clear_own, clear_bor, clear_ro, clear_st, catchE_eq, wipeE_nil, wipeE_cons, put_tupL, evS_stx, stxK_some, setIx_eq, setS_own, setS_bor, popK_own, popK_bor, foOut_val, foOut_own, foOut_exc, recv_scount, recv_sfind, recv_sindex, recv_lcount, methF_scount, methF_sfind, methF_sindex, methF_lcount, prim_inR, evS_augx, augK_some, augG_some, augP_some, getIx_eq, gxS_own, gxS_bor, Option.bind_some, Option.bind_none, hf, call__law_next, s1, s2, s3, s8, d8, key, kD]
  · cases h
theorem call__law_kinds (i : Nat) (e : Ev) : callR (some f__law_kinds) [.sl i] e = popK (e.at i) (fun ns => (.val (kD (kindF (nextF ns).1)), (nextF ns).2)) i e := call_popFn (vs := []) rfl (fun _ => rfl) i e
/-! ### _law_dots, _law_letters -/
def dotsF (t : List Nat) : List Nat := (List.range t.length).filter fun i => t.getD i 0 == 46
def letsF (t : List Nat) : List Nat := (List.range t.length).filter fun i => !(t.getD i 0 == 46)
def natsD (l : List Nat) : List D := l.map fun (i : Nat) => D.int (i : Int)
def f__law_dots : Fn := ⟨[.val], [], fun ds => match ds with
  | [.str t] => if t.length ≤ 1000000 then some ⟨.own (.lst (natsD (dotsF t))), []⟩ else none
  | _ => none⟩
def f__law_letters : Fn := ⟨[.val], [], fun ds => match ds with
  | [.str t] => if t.length ≤ 1000000 then some ⟨.own (.lst (natsD (letsF t))), []⟩ else none
  | _ => none⟩
theorem rng1_of {m : Nat} (h : m ≤ 1000000) : items .rng1 [.int (m : Int)] = some ((List.range m).map fun (k : Nat) => D.int (k : Int)) := by
  rw [items_rng1 (small62_of (by omega) (by omega)), Int.toNat_natCast]
theorem str_at {t : List Nat} {i : Nat} (h : i < t.length) : atI t (i : Int) = some (t.getD i 0) := by
  refine Mini.atI_nat ?_
  rw [List.getD_eq_getElem?_getD, List.getElem?_eq_getElem h]
  rfl
theorem sem__law_dots {Γ : List Fn} {G : List D} : ∀ ds r, f__law_dots.mf ds = some r → runDef Γ G N__law_dots f__law_dots.modes ss__law_dots ds = some r := by
  intro ds r h
  simp only [f__law_dots] at h
  split at h
  · rename_i t
    split at h
    · rename_i hl
      cases h
      have key := compXc (own := [1]) (pat := .nm 1) (it := .rng1) (cnd := evC Γ G (some (.pr .eq [(.pr .ix [(.rd 0), (.rd 1)]), (.k (.str [46]))]))) (elt := evE Γ G (.v 1)) (ds := [.int (t.length : Int)]) (fun (i : Nat) => D.int (i : Int)) (fun i => D.int (i : Int)) (fun i => t.getD i 0 == 46)
        (fun i => [.val (.str t), .val (.int (i : Int))]) (xs := List.range t.length) (E := [.val (.str t), .no]) (rng1_of hl) (by rw [List.length_range]; have : SZ = 16777216 := rfl; omega) rfl (fun i => rfl) (fun i _ => rfl)
        (fun i hi => by
          have k := str_at (List.mem_range.mp hi)
          generalize t.getD i 0 = z at *
          simp [at0, atS, ofOut_some, ofOut_none, rdOp_eq, rdS_val, rdS_own, rdS_bor, rdS_ro, rdS_st, vS_val, vS_own, mvS_val, mvS_own, evE_v, evE_mv, evE_k, evE_g, evE_pr, primR_some, evO_nil, evO_cons', evP_rd, evP_v, evP_mv, evP_k, evP_g, evP_pr, evP_chain, evP_and, evP_or, evP_not, evP_ite, evP_slc, evP_meth, evP_call, evP_mu, evP_comp, opds_nil, opds_cons, cons2_some, get_dv, get_sl, getS_own0, getS_own1, getS_bor0, getS_bor1, getS_ro0, getS_ro1, getS_st0, stays_nilR, stays_consR, stay_dv, stay_sl, stS_ro, stS_st, evE_chain, chainR_bl, evE_and, evE_or, evE_not, evE_ite, evE_truth_rd, evE_truth_v, evE_truth_mv, evE_truth_k, evE_truth_g, evE_truth_pr, evE_truth_chain, evE_truth_and, evE_truth_or, evE_truth_not, evE_truth_ite, evE_truth_slc, evE_truth_meth, evE_truth_call, evE_truth_mu, evE_truth_comp, truO_some, truB_some, truD_non, truD_bl, truD_int, truD_str, truD_lst, truD_tup, evE_slc', evB_none, evB_some, slcR_some, slcF_lst, slcF_str, evE_meth', methR_some, recv_index, recv_split, recv_join, methF_index, methF_split, methF_join, evE_call, evE_mu, gSl_own, gSl_bor, muS_lst, muR_eq, muV_lst, muT_some, okE_some, sSl_own, sSl_bor, muL_append, muL_extend, muL_pop, muL_reverse, evE_comp, evC_none, evC_some, evS_set, evS_par, valK_some, valsOf_nil, valsOf_cons, parPut_nil, parPut_cons, evS_aug, augS_val, augT_val, evS_ex, evS_ret, evS_retN, evS_if, evS_for, evS_whl', evS_brk, evS_cnt, evS_pass, evS_rai, evSs_nil, evSs_cons, forR_seq, forR_tup, forR_str, prim1_add, prim2_add, prim3_add, prim4_sub, prim5_mul, prim6_mul, prim7_mul, prim8_fdiv, prim9_mod, prim10_pow, prim11_neg, prim12_eq, prim13_ne, prim14_lt, prim15_le, prim16_gt, prim17_ge, prim18_lt, prim19_le, prim20_gt, prim21_ge, prim22_isin, prim23_notin, prim24_isin, prim25_isin, prim26_notin, prim27_notin, prim28_isN, prim29_notN, prim30_isB, prim31_notB, prim32_ix, prim33_ix, prim34_ix, prim35_tup, prim36_lst, prim37_len, prim38_len, prim39_len, prim40_abs, prim41_int, prim42_int, prim43_int, prim44_ord, prim45_str, prim_repr, prim47_list, prim48_list, prim49_sum, prim50_any, prim51_all, Pr.need, isEmpty_snoc, Res.bind_ok, Res.bind_bad, Res.bind_exc, SR.of_ok, SR.of_bad, SR.of_exc, SR.then_nx, SR.then_ret, SR.then_brk, SR.then_cnt, SR.then_exc, SR.then_bad, SR.ofO_some, SR.ofO_none, toV_ok, toB_ok, toI_ok, Out.d_val, Out.d_own, putOut_val, putOut_tup, put_nm', put_own', put_tup, putL_nil, putL_cons, free_no, free_val, free_own, free_ro, free_st, free_bor, free_err, rdS_err, evE_isi, isiS_err, evE_callx, pickK_some, evP_isi, evP_callx, evE_truth_isi, evE_truth_callx, evS_wipe, evS_tryc, tryK_exc, tryK_nx, tryK_ret, tryK_brk, tryK_cnt, evHs_cons, suK_some, suiteEnd_ret, suiteEnd_nx, dropE_some, dropS_eq, clear_nil, clear_no, clear_val, clear_own, clear_bor, clear_ro, clear_st, catchE_eq, wipeE_nil, wipeE_cons, put_tupL, evS_stx, stxK_some, setIx_eq, setS_own, setS_bor, popK_own, popK_bor, foOut_val, foOut_own, foOut_exc, recv_scount, recv_sfind, recv_sindex, recv_lcount, methF_scount, methF_sfind, methF_sindex, methF_lcount, prim_inR, evS_augx, augK_some, augG_some, augP_some, getIx_eq, gxS_own, gxS_bor, Option.bind_some, Option.bind_none, k, plain, deq_str]) (fun i _ _ => ⟨.val (.int (i : Int)), rfl, rfl⟩)
      refine fin2v (r := .ret (.own (.lst (natsD (dotsF t)))) [.val (.str t), .no]) ?_ rfl
      unfold natsD dotsF
      simp -implicitDefEqProofs [ss__law_dots, at0, atS, ofOut_some, ofOut_none, rdOp_eq, rdS_val, rdS_own, rdS_bor, rdS_ro, rdS_st, vS_val, vS_own, mvS_val, mvS_own, evE_v, evE_mv, evE_k, evE_g, evE_pr, primR_some, evO_nil, evO_cons', evP_rd, evP_v, evP_mv, evP_k, evP_g, evP_pr, evP_chain, evP_and, evP_or, evP_not, evP_ite, evP_slc, evP_meth, evP_call, evP_mu, evP_comp, opds_nil, opds_cons, cons2_some, get_dv, get_sl, getS_own0, getS_own1, getS_bor0, getS_bor1, getS_ro0, getS_ro1, getS_st0, stays_nilR, stays_consR, stay_dv, stay_sl, stS_ro, stS_st, evE_chain, chainR_bl, evE_and, evE_or, evE_not, evE_ite, evE_truth_rd, evE_truth_v, evE_truth_mv, evE_truth_k, evE_truth_g, evE_truth_pr, evE_truth_chain, evE_truth_and, evE_truth_or, evE_truth_not, evE_truth_ite, evE_truth_slc, evE_truth_meth, evE_truth_call, evE_truth_mu, evE_truth_comp, truO_some, truB_some, truD_non, truD_bl, truD_int, truD_str, truD_lst, truD_tup, evE_slc', evB_none, evB_some, slcR_some, slcF_lst, slcF_str, evE_meth', methR_some, recv_index, recv_split, recv_join, methF_index, methF_split, methF_join, evE_call, evE_mu, gSl_own, gSl_bor, muS_lst, muR_eq, muV_lst, muT_some, okE_some, sSl_own, sSl_bor, muL_append, muL_extend, muL_pop, muL_reverse, evE_comp, evC_none, evC_some, evS_set, evS_par, valK_some, valsOf_nil, valsOf_cons, parPut_nil, parPut_cons, evS_aug, augS_val, augT_val, evS_ex, evS_ret, evS_retN, evS_if, evS_for, evS_whl', evS_brk, evS_cnt, evS_pass, evS_rai, evSs_nil, evSs_cons, forR_seq, forR_tup, forR_str, prim1_add, prim2_add, prim3_add, prim4_sub, prim5_mul, prim6_mul, prim7_mul, prim8_fdiv, prim9_mod, prim10_pow, prim11_neg, prim12_eq, prim13_ne, prim14_lt, prim15_le, prim16_gt, prim17_ge, prim18_lt, prim19_le, prim20_gt, prim21_ge, prim22_isin, prim23_notin, prim24_isin, prim25_isin, prim26_notin, prim27_notin, prim28_isN, prim29_notN, prim30_isB, prim31_notB, prim32_ix, prim33_ix, prim34_ix, prim35_tup, prim36_lst, prim37_len, prim38_len, prim39_len, prim40_abs, prim41_int, prim42_int, prim43_int, prim44_ord, prim45_str, prim_repr, prim47_list, prim48_list, prim49_sum, prim50_any, prim51_all, Pr.need, isEmpty_snoc, Res.bind_ok, Res.bind_bad, Res.bind_exc, SR.of_ok, SR.of_bad, SR.of_exc, SR.then_nx, SR.then_ret, SR.then_brk, SR.then_cnt, SR.then_exc, SR.then_bad, SR.ofO_some, SR.ofO_none, toV_ok, toB_ok, toI_ok, Out.d_val, Out.d_own, putOut_val, putOut_tup, put_nm', put_own', put_tup, putL_nil, putL_cons, free_no, free_val, free_own, free_ro, free_st, free_bor, free_err, rdS_err, evE_isi, isiS_err, evE_callx, pickK_some, evP_isi, evP_callx, evE_truth_isi, evE_truth_callx, evS_wipe, evS_tryc, tryK_exc, tryK_nx, tryK_ret, tryK_brk, tryK_cnt, evHs_cons, suK_some, suiteEnd_ret, suiteEnd_nx, dropE_some, dropS_eq, clear_nil, clear_no, clear_val, clear_own, clear_bor, clear_ro, clear_st, catchE_eq, wipeE_nil, wipeE_cons, put_tupL, evS_stx, stxK_some, setIx_eq, setS_own, setS_bor, popK_own, popK_bor, foOut_val, foOut_own, foOut_exc, recv_scount, recv_sfind, recv_sindex, recv_lcount, methF_scount, methF_sfind, methF_sindex, methF_lcount, prim_inR, evS_augx, augK_some, augG_some, augP_some, getIx_eq, gxS_own, gxS_bor, Option.bind_some, Option.bind_none, key]
    · cases h
  · cases h
theorem sem__law_letters {Γ : List Fn} {G : List D} : ∀ ds r, f__law_letters.mf ds = some r → runDef Γ G N__law_letters f__law_letters.modes ss__law_letters ds = some r := by
  intro ds r h
  simp only [f__law_letters] at h
  split at h
  · rename_i t
    split at h
    · rename_i hl
      cases h
      have key := compXc (own := [1]) (pat := .nm 1) (it := .rng1) (cnd := evC Γ G (some (.pr .ne [(.pr .ix [(.rd 0), (.rd 1)]), (.k (.str [46]))]))) (elt := evE Γ G (.v 1)) (ds := [.int (t.length : Int)]) (fun (i : Nat) => D.int (i : Int)) (fun i => D.int (i : Int)) (fun i => !(t.getD i 0 == 46))
        (fun i => [.val (.str t), .val (.int (i : Int))]) (xs := List.range t.length) (E := [.val (.str t), .no]) (rng1_of hl) (by rw [List.length_range]; have : SZ = 16777216 := rfl; omega) rfl (fun i => rfl) (fun i _ => rfl)
        (fun i hi => by
          have k := str_at (List.mem_range.mp hi)
          generalize t.getD i 0 = z at *
          simp [at0, atS, ofOut_some, ofOut_none, rdOp_eq, rdS_val, rdS_own, rdS_bor, rdS_ro, rdS_st, vS_val, vS_own, mvS_val, mvS_own, evE_v, evE_mv, evE_k, evE_g, evE_pr, primR_some, evO_nil, evO_cons', evP_rd, evP_v, evP_mv, evP_k, evP_g, evP_pr, evP_chain, evP_and, evP_or, evP_not, evP_ite, evP_slc, evP_meth, evP_call, evP_mu, evP_comp, opds_nil, opds_cons, cons2_some, get_dv, get_sl, getS_own0, getS_own1, getS_bor0, getS_bor1, getS_ro0, getS_ro1, getS_st0, stays_nilR, stays_consR, stay_dv, stay_sl, stS_ro, stS_st, evE_chain, chainR_bl, evE_and, evE_or, evE_not, evE_ite, evE_truth_rd, evE_truth_v, evE_truth_mv, evE_truth_k, evE_truth_g, evE_truth_pr, evE_truth_chain, evE_truth_and, evE_truth_or, evE_truth_not, evE_truth_ite, evE_truth_slc, evE_truth_meth, evE_truth_call, evE_truth_mu, evE_truth_comp, truO_some, truB_some, truD_non, truD_bl, truD_int, truD_str, truD_lst, truD_tup, evE_slc', evB_none, evB_some, slcR_some, slcF_lst, slcF_str, evE_meth', methR_some, recv_index, recv_split, recv_join, methF_index, methF_split, methF_join, evE_call, evE_mu, gSl_own, gSl_bor, muS_lst, muR_eq, muV_lst, muT_some, okE_some, sSl_own, sSl_bor, muL_append, muL_extend, muL_pop, muL_reverse, evE_comp, evC_none, evC_some, evS_set, evS_par, valK_some, valsOf_nil, valsOf_cons, parPut_nil, parPut_cons, evS_aug, augS_val, augT_val, evS_ex, evS_ret, evS_retN, evS_if, evS_for, evS_whl', evS_brk, evS_cnt, evS_pass, evS_rai, evSs_nil, evSs_cons, forR_seq, forR_tup, forR_str, prim1_add, prim2_add, prim3_add, prim4_sub, prim5_mul, prim6_mul, prim7_mul, prim8_fdiv, prim9_mod, prim10_pow, prim11_neg, prim12_eq, prim13_ne, prim14_lt, prim15_le, prim16_gt, prim17_ge, prim18_lt, prim19_le, prim20_gt, prim21_ge, prim22_isin, prim23_notin, prim24_isin, prim25_isin, prim26_notin, prim27_notin, prim28_isN, prim29_notN, prim30_isB, prim31_notB, prim32_ix, prim33_ix, prim34_ix, prim35_tup, prim36_lst, prim37_len, prim38_len, prim39_len, prim40_abs, prim41_int, prim42_int, prim43_int, prim44_ord, prim45_str, prim_repr, prim47_list, prim48_list, prim49_sum, prim50_any, prim51_all, Pr.need, isEmpty_snoc, Res.bind_ok, Res.bind_bad, Res.bind_exc, SR.of_ok, SR.of_bad, SR.of_exc, SR.then_nx, SR.then_ret, SR.then_brk, SR.then_cnt, SR.then_exc, SR.then_bad, SR.ofO_some, SR.ofO_none, toV_ok, toB_ok, toI_ok, Out.d_val, Out.d_own, putOut_val, putOut_tup, put_nm', put_own', put_tup, putL_nil, putL_cons, free_no, free_val, free_own, free_ro, free_st, free_bor, free_err, rdS_err, evE_isi, isiS_err, evE_callx, pickK_some, evP_isi, evP_callx, evE_truth_isi, evE_truth_callx, evS_wipe, evS_tryc, tryK_exc, tryK_nx, tryK_ret, tryK_brk, tryK_cnt, evHs_cons, suK_some, suiteEnd_ret, suiteEnd_nx, dropE_some, dropS_eq, clear_nil, clear_no, clear_val, clear_own, clear_bor, clear_ro, clear_st, catchE_eq, wipeE_nil, wipeE_cons, put_tupL, evS_stx, stxK_some, setIx_eq, setS_own, setS_bor, popK_own, popK_bor, foOut_val, foOut_own, foOut_exc, recv_scount, recv_sfind, recv_sindex, recv_lcount, methF_scount, methF_sfind, methF_sindex, methF_lcount, prim_inR, evS_augx, augK_some, augG_some, augP_some, getIx_eq, gxS_own, gxS_bor, Option.bind_some, Option.bind_none, k, plain, deq_str]) (fun i _ _ => ⟨.val (.int (i : Int)), rfl, rfl⟩)
      refine fin2v (r := .ret (.own (.lst (natsD (letsF t)))) [.val (.str t), .no]) ?_ rfl
      unfold natsD letsF
      simp -implicitDefEqProofs [ss__law_letters, at0, atS, ofOut_some, ofOut_none, rdOp_eq, rdS_val, rdS_own, rdS_bor, rdS_ro, rdS_st, vS_val, vS_own, mvS_val, mvS_own, evE_v, evE_mv, evE_k, evE_g, evE_pr, primR_some, evO_nil, evO_cons', evP_rd, evP_v, evP_mv, evP_k, evP_g, evP_pr, evP_chain, evP_and, evP_or, evP_not, evP_ite, evP_slc, evP_meth, evP_call, evP_mu, evP_comp, opds_nil, opds_cons, cons2_some, get_dv, get_sl, getS_own0, getS_own1, getS_bor0, getS_bor1, getS_ro0, getS_ro1, getS_st0, stays_nilR, stays_consR, stay_dv, stay_sl, stS_ro, stS_st, evE_chain, chainR_bl, evE_and, evE_or, evE_not, evE_ite, evE_truth_rd, evE_truth_v, evE_truth_mv, evE_truth_k, evE_truth_g, evE_truth_pr, evE_truth_chain, evE_truth_and, evE_truth_or, evE_truth_not, evE_truth_ite, evE_truth_slc, evE_truth_meth, evE_truth_call, evE_truth_mu, evE_truth_comp, truO_some, truB_some, truD_non, truD_bl, truD_int, truD_str, truD_lst, truD_tup, evE_slc', evB_none, evB_some, slcR_some, slcF_lst, slcF_str, evE_meth', methR_some, recv_index, recv_split, recv_join, methF_index, methF_split, methF_join, evE_call, evE_mu, gSl_own, gSl_bor, muS_lst, muR_eq, muV_lst, muT_some, okE_some, sSl_own, sSl_bor, muL_append, muL_extend, muL_pop, muL_reverse, evE_comp, evC_none, evC_some, evS_set, evS_par, valK_some, valsOf_nil, valsOf_cons, parPut_nil, parPut_cons, evS_aug, augS_val, augT_val, evS_ex, evS_ret, evS_retN, evS_if, evS_for, evS_whl', evS_brk, evS_cnt, evS_pass, evS_rai, evSs_nil, evSs_cons, forR_seq, forR_tup, forR_str, prim1_add, prim2_add, prim3_add, prim4_sub, prim5_mul, prim6_mul, prim7_mul, prim8_fdiv, prim9_mod, prim10_pow, prim11_neg, prim12_eq, prim13_ne, prim14_lt, prim15_le, prim16_gt, prim17_ge, prim18_lt, prim19_le, prim20_gt, prim21_ge, prim22_isin, prim23_notin, prim24_isin, prim25_isin, prim26_notin, prim27_notin, prim28_isN, prim29_notN, prim30_isB, prim31_notB, prim32_ix, prim33_ix, prim34_ix, prim35_tup, prim36_lst, prim37_len, prim38_len, prim39_len, prim40_abs, prim41_int, prim42_int, prim43_int, prim44_ord, prim45_str, prim_repr, prim47_list, prim48_list, prim49_sum, prim50_any, prim51_all, Pr.need, isEmpty_snoc, Res.bind_ok, Res.bind_bad, Res.bind_exc, SR.of_ok, SR.of_bad, SR.of_exc, SR.then_nx, SR.then_ret, SR.then_brk, SR.then_cnt, SR.then_exc, SR.then_bad, SR.ofO_some, SR.ofO_none, toV_ok, toB_ok, toI_ok, Out.d_val, Out.d_own, putOut_val, putOut_tup, put_nm', put_own', put_tup, putL_nil, putL_cons, free_no, free_val, free_own, free_ro, free_st, free_bor, free_err, rdS_err, evE_isi, isiS_err, evE_callx, pickK_some, evP_isi, evP_callx, evE_truth_isi, evE_truth_callx, evS_wipe, evS_tryc, tryK_exc, tryK_nx, tryK_ret, tryK_brk, tryK_cnt, evHs_cons, suK_some, suiteEnd_ret, suiteEnd_nx, dropE_some, dropS_eq, clear_nil, clear_no, clear_val, clear_own, clear_bor, clear_ro, clear_st, catchE_eq, wipeE_nil, wipeE_cons, put_tupL, evS_stx, stxK_some, setIx_eq, setS_own, setS_bor, popK_own, popK_bor, foOut_val, foOut_own, foOut_exc, recv_scount, recv_sfind, recv_sindex, recv_lcount, methF_scount, methF_sfind, methF_sindex, methF_lcount, prim_inR, evS_augx, augK_some, augG_some, augP_some, getIx_eq, gxS_own, gxS_bor, Option.bind_some, Option.bind_none, key]
    · cases h
  · cases h
theorem call__law_dots {t : List Nat} {e : Ev} (h : t.length ≤ 1000000) : callR (some f__law_dots) [.dv (.str t)] e = .ok (.own (.lst (natsD (dotsF t)))) e := by
  simp [callR, argsGet, argGet, apart, bors, lsl, putBack, foOut, f__law_dots, h]
theorem call__law_letters {t : List Nat} {e : Ev} (h : t.length ≤ 1000000) : callR (some f__law_letters) [.dv (.str t)] e = .ok (.own (.lst (natsD (letsF t)))) e := by
  simp [callR, argsGet, argGet, apart, bors, lsl, putBack, foOut, f__law_letters, h]
/-! ### _law_grown, _law_tree -/
theorem dots_ne {t : List Nat} (h : 46 ∈ t) : 0 < (dotsF t).length := by
  obtain ⟨i, hi, e⟩ := List.mem_iff_getElem.mp h
  refine List.length_pos_of_mem (a := i) (List.mem_filter.mpr ⟨List.mem_range.mpr hi, ?_⟩)
  rw [List.getD_eq_getElem?_getD, List.getElem?_eq_getElem hi]
  simp [e]
theorem dots_lt {t : List Nat} {i : Nat} (h : i ∈ dotsF t) : i < t.length := List.mem_range.mp (List.mem_filter.mp h).1
/-- a letter is put for a dot -/
def growF (K : List Int) (t : List Nat) (at' l : Nat) : List Nat := t.take at' ++ [abc.getD l 0] ++ List.replicate (K.getD l 0).toNat 46 ++ t.drop (at' + 1)
def gStep (K : List Int) (s : List Nat × List Int) : List Nat × List Int :=
  (growF K s.1 ((dotsF s.1).getD ((nextF s.2).1.fmod ((dotsF s.1).length : Int)).toNat 0) ((nextF (nextF s.2).2).1.fmod (K.length : Int)).toNat, (nextF (nextF s.2).2).2)
def grows (K : List Int) : Nat → List Nat × List Int → List Nat × List Int
  | 0, s => s
  | k + 1, s => gStep K (grows K k s)
def okKs (K : List Int) : Bool := decide (1 ≤ K.length) && decide (K.length ≤ 3) && K.all fun k => decide (1 ≤ k) && decide (k ≤ 3)
theorem okKs_at {K : List Int} (h : okKs K = true) {l : Nat} (hl : l < K.length) : 1 ≤ K.getD l 0 ∧ K.getD l 0 ≤ 3 := by
  unfold okKs at h
  simp only [Bool.and_eq_true, decide_eq_true_eq, List.all_eq_true] at h
  have := h.2 K[l] (List.getElem_mem hl)
  rw [List.getD_eq_getElem?_getD, List.getElem?_eq_getElem hl]
  exact this
theorem okKs_len {K : List Int} (h : okKs K = true) : 1 ≤ K.length ∧ K.length ≤ 3 := by
  unfold okKs at h
  simp only [Bool.and_eq_true, decide_eq_true_eq] at h
  exact h.1
theorem grow_len {K : List Int} (h : okKs K = true) {t : List Nat} {a l : Nat} (hl : l < K.length) : (growF K t a l).length ≤ t.length + 4 := by
  have := okKs_at h hl
  unfold growF
  simp only [List.length_append, List.length_take, List.length_cons, List.length_nil, List.length_replicate, List.length_drop]
  omega
theorem grow_dot {K : List Int} (h : okKs K = true) {t : List Nat} {a l : Nat} (hl : l < K.length) : 46 ∈ growF K t a l := by
  have := okKs_at h hl
  unfold growF
  refine List.mem_append_left _ (List.mem_append_right _ (List.mem_replicate.mpr ⟨by omega, rfl⟩))
theorem letter_lt {K : List Int} (h : okKs K = true) (n : Int) : (n.fmod (K.length : Int)).toNat < K.length := by
  have a := okKs_len h
  have := fmod_range n (show (0 : Int) < (K.length : Int) by omega)
  omega
theorem grows_ok {K : List Int} (h : okKs K = true) (s : List Nat × List Int) (h0 : 46 ∈ s.1) : ∀ k, 46 ∈ (grows K k s).1 ∧ (grows K k s).1.length ≤ s.1.length + 4 * k
  | 0 => ⟨h0, by simp [grows]⟩
  | k + 1 => by
    obtain ⟨a, b⟩ := grows_ok h s h0 k
    have := grow_len h (t := (grows K k s).1) (a := (dotsF (grows K k s).1).getD ((nextF (grows K k s).2).1.fmod ((dotsF (grows K k s).1).length : Int)).toNat 0) (letter_lt h (nextF (nextF (grows K k s).2).2).1)
    refine ⟨grow_dot h (letter_lt h _), ?_⟩
    refine Nat.le_trans (show (gStep K (grows K k s)).1.length ≤ (grows K k s).1.length + 4 from this) (by omega)
def f__law_grown : Fn := popFn 2 fun ns vs => match vs with
  | [.tup xs, .int n] => (match intsD xs with
    | some K => if okKs K = true ∧ 0 ≤ n ∧ n ≤ 1000 then some (.val (.str (grows K n.toNat ([46], ns)).1), (grows K n.toNat ([46], ns)).2) else none
    | none => none)
  | _ => none
section
variable {Γ : List Fn} {G : List D} {f1 f2 : Nat}
theorem grown_turn (h1 : Γ[f1]? = some f__law_dots) (h2 : Γ[f2]? = some f__law_next) {K : List Int} (hK : okKs K = true) {t : List Nat} {ns : List Int} {n : Int} {k : Nat} (ht : 46 ∈ t) (hl : t.length ≤ 100000) :
    turnF Γ G (.nm 4) (bd__law_grown_1 f1 f2) (.int (k : Int)) [.bor (.lst (ns.map .int)), .val (kD K), .val (.int n), .val (.str t), .no, .no, .no, .no] =
      .nx [.bor (.lst ((gStep K (t, ns)).2.map .int)), .val (kD K), .val (.int n), .val (.str (gStep K (t, ns)).1), .no, .no, .no, .no] := by
  have c1 := fun e => call__law_dots (t := t) (e := e) (by omega)
  have hd := dots_ne ht
  have kl := okKs_len hK
  have hlD : (natsD (dotsF t)).length = (dotsF t).length := by simp [natsD]
  have dd : divOk ((dotsF t).length : Int) = true := by
    have hle : (dotsF t).length ≤ t.length := by
      have := List.length_filter_le (fun i => t.getD i 0 == 46) (List.range t.length)
      rw [List.length_range] at this
      exact this
    exact divOk_small (by omega) (by omega)
  have dk : divOk (K.length : Int) = true := divOk_small (by omega) (by omega)
  have hKl : (K.map D.int).length = K.length := by simp
  have hm0 : ¬ (dotsF t).length = 0 := by omega
  have hK0 : ¬ K.length = 0 := by omega
  unfold gStep
  obtain ⟨n1, e1⟩ : ∃ x, (nextF ns).1 = x := ⟨_, rfl⟩
  obtain ⟨ns1, e2⟩ : ∃ x, (nextF ns).2 = x := ⟨_, rfl⟩
  obtain ⟨n2, e3⟩ : ∃ x, (nextF ns1).1 = x := ⟨_, rfl⟩
  obtain ⟨ns2, e4⟩ : ∃ x, (nextF ns1).2 = x := ⟨_, rfl⟩
  simp only [e1, e2, e3, e4]
  have p1 := pickM (fun i : Nat => D.int (i : Int)) (dotsF t) n1 (m := ((dotsF t).length : Int)) rfl (by omega) 0
  change atI (natsD (dotsF t)) _ = _ at p1
  obtain ⟨a, ha⟩ : ∃ a, (dotsF t).getD (n1.fmod ((dotsF t).length : Int)).toNat 0 = a := ⟨_, rfl⟩
  have ll := letter_lt hK n2
  have r2 := fmod_range n2 (show (0 : Int) < (K.length : Int) by omega)
  obtain ⟨l, hl2⟩ : ∃ l, (n2.fmod (K.length : Int)).toNat = l := ⟨_, rfl⟩
  have hl3 : n2.fmod (K.length : Int) = (l : Int) := by omega
  rw [hl2] at ll
  rw [ha] at p1
  simp only [ha, hl2]
  have kk := okKs_at hK ll
  have p2 : atI (K.map D.int) (l : Int) = some (.int (K.getD l 0)) := Mini.atI_nat (by rw [List.getElem?_map, List.getElem?_eq_getElem ll, List.getD_eq_getElem?_getD, List.getElem?_eq_getElem ll]; rfl)
  have p3 : atI [(97 : Nat), 98, 99] (l : Int) = some (abc.getD l 0) := str_at (t := abc) (by show l < 3; omega)
  have t1 := cut_take t a
  have t2 : Mini.cut t (some ((a : Int) + 1)) none = t.drop (a + 1) := by
    have := cut_drop t (a + 1)
    rwa [Int.natCast_add, Int.natCast_one] at this
  have ta : (t.take a).length ≤ t.length := by rw [List.length_take]; omega
  have tb : (t.drop (a + 1)).length ≤ t.length := by rw [List.length_drop]; omega
  have SZe : SZ = 16777216 := rfl
  have pm : prim .mul [.str [46], .int (K.getD l 0)] = some (.val (.str (List.replicate (K.getD l 0).toNat 46))) := by
    have hr : (List.replicate (K.getD l 0).toNat [46]).flatten = List.replicate (K.getD l 0).toNat 46 := by simp
    rw [prim7_mul, if_pos, hr]
    rw [Bool.and_eq_true, Bool.and_eq_true]
    refine ⟨⟨decide_eq_true (by omega), decide_eq_true (by omega)⟩, decide_eq_true ?_⟩
    show 1 * _ ≤ _
    omega
  have q1 : prim .add [.str (t.take a), .str [abc.getD l 0]] = some (.val (.str (t.take a ++ [abc.getD l 0]))) := by
    rw [prim2_add, if_pos]; simp only [List.length_cons, List.length_nil]; omega
  have q2 : prim .add [.str (t.take a ++ [abc.getD l 0]), .str (List.replicate (K.getD l 0).toNat 46)] = some (.val (.str (t.take a ++ [abc.getD l 0] ++ List.replicate (K.getD l 0).toNat 46))) := by
    rw [prim2_add, if_pos]; simp only [List.length_append, List.length_cons, List.length_nil, List.length_replicate]; omega
  have q3 : prim .add [.str (t.take a ++ [abc.getD l 0] ++ List.replicate (K.getD l 0).toNat 46), .str (t.drop (a + 1))] = some (.val (.str (growF K t a l))) := by
    rw [prim2_add, if_pos]
    · rfl
    · simp only [List.length_append, List.length_cons, List.length_nil, List.length_replicate]; omega
  unfold kD
  generalize growF K t a l = t9 at *
  generalize t.take a ++ [abc.getD l 0] ++ List.replicate (K.getD l 0).toNat 46 = t8 at *
  generalize t.take a ++ [abc.getD l 0] = t7 at *
  generalize List.replicate (K.getD l 0).toNat 46 = t6 at *
  generalize t.take a = t5 at *
  generalize t.drop (a + 1) = t4 at *
  generalize natsD (dotsF t) = l1 at *
  generalize K.map D.int = l2 at *
  generalize K.getD l 0 = z at *
  generalize abc.getD l 0 = y at *
  generalize (dotsF t).length = m at *
  simp -implicitDefEqProofs [turnF, bd__law_grown_1, at0, atS, ofOut_some, ofOut_none, rdOp_eq, rdS_val, rdS_own, rdS_bor, rdS_ro, rdS_st, vS_val, vS_own, mvS_val, mvS_own, evE_v, evE_mv, evE_k, evE_g, evE_pr, primR_some, evO_nil, evO_cons', evP_rd, evP_v, evP_mv, evP_k, evP_g, evP_pr, evP_chain, evP_and, evP_or, evP_not, evP_ite, evP_slc, evP_meth, evP_call, evP_mu, evP_comp, opds_nil, opds_cons, cons2_some, get_dv, get_sl, getS_own0, getS_own1, getS_bor0, getS_bor1, getS_ro0, getS_ro1, getS_st0, stays_nilR, stays_consR, stay_dv, stay_sl, stS_ro, stS_st, evE_chain, chainR_bl, evE_and, evE_or, evE_not, evE_ite, evE_truth_rd, evE_truth_v, evE_truth_mv, evE_truth_k, evE_truth_g, evE_truth_pr, evE_truth_chain, evE_truth_and, evE_truth_or, evE_truth_not, evE_truth_ite, evE_truth_slc, evE_truth_meth, evE_truth_call, evE_truth_mu, evE_truth_comp, truO_some, truB_some, truD_non, truD_bl, truD_int, truD_str, truD_lst, truD_tup, evE_slc', evB_none, evB_some, slcR_some, slcF_lst, slcF_str, evE_meth', methR_some, recv_index, recv_split, recv_join, methF_index, methF_split, methF_join, evE_call, evE_mu, gSl_own, gSl_bor, muS_lst, muR_eq, muV_lst, muT_some, okE_some, sSl_own, sSl_bor, muL_append, muL_extend, muL_pop, muL_reverse, evE_comp, evC_none, evC_some, evS_set, evS_par, valK_some, valsOf_nil, valsOf_cons, parPut_nil, parPut_cons, evS_aug, augS_val, augT_val, evS_ex, evS_ret, evS_retN, evS_if, evS_for, evS_whl', evS_brk, evS_cnt, evS_pass, evS_rai, evSs_nil, evSs_cons, forR_seq, forR_tup, forR_str, prim1_add, prim3_add, prim4_sub, prim5_mul, prim8_fdiv, prim9_mod, prim10_pow, prim11_neg, prim12_eq, prim13_ne, prim14_lt, prim15_le, prim16_gt, prim17_ge, prim18_lt, prim19_le, prim20_gt, prim21_ge, prim22_isin, prim23_notin, prim24_isin, prim25_isin, prim26_notin, prim27_notin, prim28_isN, prim29_notN, prim30_isB, prim31_notB, prim32_ix, prim33_ix, prim34_ix, prim35_tup, prim36_lst, prim37_len, prim38_len, prim39_len, prim40_abs, prim41_int, prim42_int, prim43_int, prim44_ord, prim45_str, prim_repr, prim47_list, prim48_list, prim49_sum, prim50_any, prim51_all, Pr.need, isEmpty_snoc, Res.bind_ok, Res.bind_bad, Res.bind_exc, SR.of_ok, SR.of_bad, SR.of_exc, SR.then_nx, SR.then_ret, SR.then_brk, SR.then_cnt, SR.then_exc, SR.then_bad, SR.ofO_some, SR.ofO_none, toV_ok, toB_ok, toI_ok, Out.d_val, Out.d_own, putOut_val, putOut_tup, put_nm', put_own', put_tup, putL_nil, putL_cons, free_no, free_val, free_own, free_ro, free_st, free_bor, free_err, rdS_err, evE_isi, isiS_err, evE_callx, pickK_some, evP_isi, evP_callx, evE_truth_isi, evE_truth_callx, evS_wipe, evS_tryc, tryK_exc, tryK_nx, tryK_ret, tryK_brk, tryK_cnt, evHs_cons, suK_some, suiteEnd_ret, suiteEnd_nx, dropE_some, dropS_eq, clear_nil, clear_no, clear_val, clear_own, clear_bor, clear_ro, clear_st, catchE_eq, wipeE_nil, wipeE_cons, put_tupL, evS_stx, stxK_some, setIx_eq, setS_own, setS_bor, popK_own, popK_bor, foOut_val, foOut_own, foOut_exc, recv_scount, recv_sfind, recv_sindex, recv_lcount, methF_scount, methF_sfind, methF_sindex, methF_lcount, prim_inR, evS_augx, augK_some, augG_some, augP_some, getIx_eq, gxS_own, gxS_bor, Option.bind_some, Option.bind_none, h1, h2, c1, call__law_next, e1, e2, e3, e4, hlD, hKl, hm0, hK0, dd, dk, p1, p2, p3, hl3, t1, t2, pm, q1, q2, q3]
theorem for_cntC {body : D → Ev → SR} (f : Nat → D) (E : Nat → Ev) (n : Nat) (h : ∀ k, k < n → body (f k) (E k) = .nx (E (k + 1))) : forRun body ((List.range n).map f) (E 0) = .nx (E n) := by
  have cnt : ∀ (xs : List Nat) (j : Nat), xs.foldl (fun (j : Nat) (_ : Nat) => j + 1) j = j + xs.length := by
    intro xs
    induction xs with
    | nil => intro j; rfl
    | cons x xs ih => intro j; rw [List.foldl_cons, ih, List.length_cons]; omega
  have key := for_fold (body := body) f E (fun xs j => ∀ i x, xs[i]? = some x → x = j + i ∧ x < n) (fun j _ => j + 1) (fun j x r hI => by
    obtain ⟨hx, hxn⟩ := hI 0 x rfl
    have hx : x = j := by omega
    subst hx
    exact ⟨h x hxn, fun i y hy => by have := hI (i + 1) y hy; omega⟩) (List.range n) 0 (fun i x hx => by
      have := (List.getElem?_eq_some_iff.mp hx).1
      rw [List.length_range] at this
      rw [List.getElem?_range this] at hx
      cases hx; exact ⟨by omega, this⟩)
  rw [cnt, List.length_range, Nat.zero_add] at key
  exact key
theorem fin8g {a b c : D} {ss : List S} {r : SR} {x : Option FRes} (h : evSs Γ G ss [.bor a, .val b, .val c, .no, .no, .no, .no, .no] = r) (hr : leave [.bor, .val, .val] r = x) : runDef Γ G 8 [.bor, .val, .val] ss [a, b, c] = x := by
  unfold runDef
  rw [if_pos (by rfl)]
  show leave _ (evSs Γ G ss [.bor a, .val b, .val c, .no, .no, .no, .no, .no]) = _
  rw [h, hr]
theorem fin3g {a b c : D} {ss : List S} {r : SR} {x : Option FRes} (h : evSs Γ G ss [.bor a, .val b, .val c] = r) (hr : leave [.bor, .val, .val] r = x) : runDef Γ G 3 [.bor, .val, .val] ss [a, b, c] = x := by
  unfold runDef
  rw [if_pos (by rfl)]
  show leave _ (evSs Γ G ss [.bor a, .val b, .val c]) = _
  rw [h, hr]
theorem sem__law_grown (h1 : Γ[f1]? = some f__law_dots) (h2 : Γ[f2]? = some f__law_next) : ∀ ds r, f__law_grown.mf ds = some r → runDef Γ G N__law_grown f__law_grown.modes (ss__law_grown f1 f2) ds = some r := by
  refine popFn_sem fun ns vs r h => ?_
  split at h
  · rename_i xs n
    split at h
    · rename_i K hK
      split at h
      · rename_i hc
        cases h
        obtain ⟨hk, c3, c4⟩ := hc
        obtain ⟨m, rfl⟩ := Int.eq_ofNat_of_zero_le c3
        rw [intsD_inv hK, Int.toNat_natCast]
        have key := for_cntC (body := turnF Γ G (.nm 4) (bd__law_grown_1 f1 f2)) (fun (k : Nat) => D.int (k : Int)) (fun k => [.bor (.lst ((grows K k ([46], ns)).2.map .int)), .val (kD K), .val (.int (m : Int)), .val (.str (grows K k ([46], ns)).1), .no, .no, .no, .no]) m (fun k hkm => by
          obtain ⟨g1, g2⟩ := grows_ok hk ([46], ns) (by simp) k
          have g3 : (grows K k ([46], ns)).1.length ≤ 100000 := by
            have : ([46] : List Nat).length = 1 := rfl
            simp only [this] at g2
            omega
          exact grown_turn h1 h2 hk g1 g3)
        have it := rng1_of (m := m) (by omega)
        refine fin8g (r := .ret (.val (.str (grows K m ([46], ns)).1)) [.bor (.lst ((grows K m ([46], ns)).2.map .int)), .val (kD K), .val (.int (m : Int)), .val (.str (grows K m ([46], ns)).1), .no, .no, .no, .no]) ?_ rfl
        change forRun _ _ [.bor (.lst (ns.map .int)), .val (kD K), .val (.int (m : Int)), .val (.str [46]), .no, .no, .no, .no] = _ at key
        change evSs Γ G (ss__law_grown f1 f2) [.bor (.lst (ns.map .int)), .val (kD K), .val (.int (m : Int)), .no, .no, .no, .no, .no] = _
        generalize (grows K m ([46], ns)).2.map D.int = l1 at *
        generalize (grows K m ([46], ns)).1 = l2 at *
        generalize kD K = l3 at *
        generalize ns.map D.int = l4 at *
        simp -implicitDefEqProofs [-List.map_map, ss__law_grown, at0, atS, ofOut_some, ofOut_none, rdOp_eq, rdS_val, rdS_own, rdS_bor, rdS_ro, rdS_st, vS_val, vS_own, mvS_val, mvS_own, evE_v, evE_mv, evE_k, evE_g, evE_pr, primR_some, evO_nil, evO_cons', evP_rd, evP_v, evP_mv, evP_k, evP_g, evP_pr, evP_chain, evP_and, evP_or, evP_not, evP_ite, evP_slc, evP_meth, evP_call, evP_mu, evP_comp, opds_nil, opds_cons, cons2_some, get_dv, get_sl, getS_own0, getS_own1, getS_bor0, getS_bor1, getS_ro0, getS_ro1, getS_st0, stays_nilR, stays_consR, stay_dv, stay_sl, stS_ro, stS_st, evE_chain, chainR_bl, evE_and, evE_or, evE_not, evE_ite, evE_truth_rd, evE_truth_v, evE_truth_mv, evE_truth_k, evE_truth_g, evE_truth_pr, evE_truth_chain, evE_truth_and, evE_truth_or, evE_truth_not, evE_truth_ite, evE_truth_slc, evE_truth_meth, evE_truth_call, evE_truth_mu, evE_truth_comp, truO_some, truB_some, truD_non, truD_bl, truD_int, truD_str, truD_lst, truD_tup, evE_slc', evB_none, evB_some, slcR_some, slcF_lst, slcF_str, evE_meth', methR_some, recv_index, recv_split, recv_join, methF_index, methF_split, methF_join, evE_call, evE_mu, gSl_own, gSl_bor, muS_lst, muR_eq, muV_lst, muT_some, okE_some, sSl_own, sSl_bor, muL_append, muL_extend, muL_pop, muL_reverse, evE_comp, evC_none, evC_some, evS_set, evS_par, valK_some, valsOf_nil, valsOf_cons, parPut_nil, parPut_cons, evS_aug, augS_val, augT_val, evS_ex, evS_ret, evS_retN, evS_if, evS_for, evS_whl', evS_brk, evS_cnt, evS_pass, evS_rai, evSs_nil, evSs_cons, forR_seq, forR_tup, forR_str, prim1_add, prim2_add, prim3_add, prim4_sub, prim5_mul, prim6_mul, prim7_mul, prim8_fdiv, prim9_mod, prim10_pow, prim11_neg, prim12_eq, prim13_ne, prim14_lt, prim15_le, prim16_gt, prim17_ge, prim18_lt, prim19_le, prim20_gt, prim21_ge, prim22_isin, prim23_notin, prim24_isin, prim25_isin, prim26_notin, prim27_notin, prim28_isN, prim29_notN, prim30_isB, prim31_notB, prim32_ix, prim33_ix, prim34_ix, prim35_tup, prim36_lst, prim37_len, prim38_len, prim39_len, prim40_abs, prim41_int, prim42_int, prim43_int, prim44_ord, prim45_str, prim_repr, prim47_list, prim48_list, prim49_sum, prim50_any, prim51_all, Pr.need, isEmpty_snoc, Res.bind_ok, Res.bind_bad, Res.bind_exc, SR.of_ok, SR.of_bad, SR.of_exc, SR.then_nx, SR.then_ret, SR.then_brk, SR.then_cnt, SR.then_exc, SR.then_bad, SR.ofO_some, SR.ofO_none, toV_ok, toB_ok, toI_ok, Out.d_val, Out.d_own, putOut_val, putOut_tup, put_nm', put_own', put_tup, putL_nil, putL_cons, free_no, free_val, free_own, free_ro, free_st, free_bor, free_err, rdS_err, evE_isi, isiS_err, evE_callx, pickK_some, evP_isi, evP_callx, evE_truth_isi, evE_truth_callx, evS_wipe, evS_tryc, tryK_exc, tryK_nx, tryK_ret, tryK_brk, tryK_cnt, evHs_cons, suK_some, suiteEnd_ret, suiteEnd_nx, dropE_some, dropS_eq, clear_nil, clear_no, clear_val, clear_own, clear_bor, clear_ro, clear_st, catchE_eq, wipeE_nil, wipeE_cons, put_tupL, evS_stx, stxK_some, setIx_eq, setS_own, setS_bor, popK_own, popK_bor, foOut_val, foOut_own, foOut_exc, recv_scount, recv_sfind, recv_sindex, recv_lcount, methF_scount, methF_sfind, methF_sindex, methF_lcount, prim_inR, evS_augx, augK_some, augG_some, augP_some, getIx_eq, gxS_own, gxS_bor, Option.bind_some, Option.bind_none, forR_some _ _ _ _ it, key]
      · cases h
    · cases h
  · cases h
theorem call__law_grown {K : List Int} {m : Nat} (hk : okKs K = true) (hm : m ≤ 1000) (i : Nat) (e : Ev) : callR (some f__law_grown) [.sl i, .dv (kD K), .dv (.int (m : Int))] e = popK (e.at i) (fun ns => (.val (.str (grows K m ([46], ns)).1), (grows K m ([46], ns)).2)) i e :=
  call_popFn (vs := [kD K, .int (m : Int)]) rfl (fun ns => by
    simp only [kD, intsD_map, Int.toNat_natCast]
    rw [if_pos ⟨hk, by omega, by omega⟩]) i e
def treeF (K : List Int) (m : Nat) (ns : List Int) : List Nat × List Int := grows K ((nextF ns).1.fmod ((m : Int) + 1)).toNat ([46], (nextF ns).2)
def f__law_tree : Fn := popFn 2 fun ns vs => match vs with
  | [.tup xs, .int n] => (match intsD xs with
    | some K => if okKs K = true ∧ 0 ≤ n ∧ n ≤ 500 then some (.val (.str (treeF K n.toNat ns).1), (treeF K n.toNat ns).2) else none
    | none => none)
  | _ => none
theorem sem__law_tree (h1 : Γ[f1]? = some f__law_grown) (h2 : Γ[f2]? = some f__law_next) : ∀ ds r, f__law_tree.mf ds = some r → runDef Γ G N__law_tree f__law_tree.modes (ss__law_tree f1 f2) ds = some r := by
  refine popFn_sem fun ns vs r h => ?_
  split at h
  · rename_i xs n
    split at h
    · rename_i K hK
      split at h
      · rename_i hc
        cases h
        obtain ⟨hk, c3, c4⟩ := hc
        obtain ⟨m, rfl⟩ := Int.eq_ofNat_of_zero_le c3
        rw [intsD_inv hK, Int.toNat_natCast]
        obtain ⟨n1, e1⟩ : ∃ x, (nextF ns).1 = x := ⟨_, rfl⟩
        obtain ⟨ns1, e2⟩ : ∃ x, (nextF ns).2 = x := ⟨_, rfl⟩
        have r := fmod_range n1 (show (0 : Int) < (m : Int) + 1 by omega)
        obtain ⟨q, hq⟩ : ∃ q : Nat, n1.fmod ((m : Int) + 1) = (q : Int) := ⟨(n1.fmod ((m : Int) + 1)).toNat, by omega⟩
        have c1 := fun i e => call__law_grown (K := K) (m := q) hk (by omega) i e
        have dm : divOk ((m : Int) + 1) = true := divOk_small (by omega) (by omega)
        have hm0 : ¬ (m : Int) + 1 = 0 := by omega
        simp only [treeF, e1, e2, hq, Int.toNat_natCast]
        refine fin3g (r := .ret (.val (.str (grows K q ([46], ns1)).1)) [.bor (.lst ((grows K q ([46], ns1)).2.map .int)), .val (kD K), .val (.int (m : Int))]) ?_ rfl
        change evSs Γ G (ss__law_tree f1 f2) [.bor (.lst (ns.map .int)), .val (kD K), .val (.int (m : Int))] = _
        generalize kD K = l3 at *
        simp -implicitDefEqProofs [ss__law_tree, at0, atS, ofOut_some, ofOut_none, rdOp_eq, rdS_val, rdS_own, rdS_bor, rdS_ro, rdS_st, vS_val, vS_own, mvS_val, mvS_own, evE_v, evE_mv, evE_k, evE_g, evE_pr, primR_some, evO_nil, evO_cons', evP_rd, evP_v, evP_mv, evP_k, evP_g, evP_pr, evP_chain, evP_and, evP_or, evP_not, evP_ite, evP_slc, evP_meth, evP_call, evP_mu, evP_comp, opds_nil, opds_cons, cons2_some, get_dv, get_sl, getS_own0, getS_own1, getS_bor0, getS_bor1, getS_ro0, getS_ro1, getS_st0, stays_nilR, stays_consR, stay_dv, stay_sl, stS_ro, stS_st, evE_chain, chainR_bl, evE_and, evE_or, evE_not, evE_ite, evE_truth_rd, evE_truth_v, evE_truth_mv, evE_truth_k, evE_truth_g, evE_truth_pr, evE_truth_chain, evE_truth_and, evE_truth_or, evE_truth_not, evE_truth_ite, evE_truth_slc, evE_truth_meth, evE_truth_call, evE_truth_mu, evE_truth_comp, truO_some, truB_some, truD_non, truD_bl, truD_int, truD_str, truD_lst, truD_tup, evE_slc', evB_none, evB_some, slcR_some, slcF_lst, slcF_str, evE_meth', methR_some, recv_index, recv_split, recv_join, methF_index, methF_split, methF_join, evE_call, evE_mu, gSl_own, gSl_bor, muS_lst, muR_eq, muV_lst, muT_some, okE_some, sSl_own, sSl_bor, muL_append, muL_extend, muL_pop, muL_reverse, evE_comp, evC_none, evC_some, evS_set, evS_par, valK_some, valsOf_nil, valsOf_cons, parPut_nil, parPut_cons, evS_aug, augS_val, augT_val, evS_ex, evS_ret, evS_retN, evS_if, evS_for, evS_whl', evS_brk, evS_cnt, evS_pass, evS_rai, evSs_nil, evSs_cons, forR_seq, forR_tup, forR_str, prim1_add, prim2_add, prim3_add, prim4_sub, prim5_mul, prim6_mul, prim7_mul, prim8_fdiv, prim9_mod, prim10_pow, prim11_neg, prim12_eq, prim13_ne, prim14_lt, prim15_le, prim16_gt, prim17_ge, prim18_lt, prim19_le, prim20_gt, prim21_ge, prim22_isin, prim23_notin, prim24_isin, prim25_isin, prim26_notin, prim27_notin, prim28_isN, prim29_notN, prim30_isB, prim31_notB, prim32_ix, prim33_ix, prim34_ix, prim35_tup, prim36_lst, prim37_len, prim38_len, prim39_len, prim40_abs, prim41_int, prim42_int, prim43_int, prim44_ord, prim45_str, prim_repr, prim47_list, prim48_list, prim49_sum, prim50_any, prim51_all, Pr.need, isEmpty_snoc, Res.bind_ok, Res.bind_bad, Res.bind_exc, SR.of_ok, SR.of_bad, SR.of_exc, SR.then_nx, SR.then_ret, SR.then_brk, SR.then_cnt, SR.then_exc, SR.then_bad, SR.ofO_some, SR.ofO_none, toV_ok, toB_ok, toI_ok, Out.d_val, Out.d_own, putOut_val, putOut_tup, put_nm', put_own', put_tup, putL_nil, putL_cons, free_no, free_val, free_own, free_ro, free_st, free_bor, free_err, rdS_err, evE_isi, isiS_err, evE_callx, pickK_some, evP_isi, evP_callx, evE_truth_isi, evE_truth_callx, evS_wipe, evS_tryc, tryK_exc, tryK_nx, tryK_ret, tryK_brk, tryK_cnt, evHs_cons, suK_some, suiteEnd_ret, suiteEnd_nx, dropE_some, dropS_eq, clear_nil, clear_no, clear_val, clear_own, clear_bor, clear_ro, clear_st, catchE_eq, wipeE_nil, wipeE_cons, put_tupL, evS_stx, stxK_some, setIx_eq, setS_own, setS_bor, popK_own, popK_bor, foOut_val, foOut_own, foOut_exc, recv_scount, recv_sfind, recv_sindex, recv_lcount, methF_scount, methF_sfind, methF_sindex, methF_lcount, prim_inR, evS_augx, augK_some, augG_some, augP_some, getIx_eq, gxS_own, gxS_bor, Option.bind_some, Option.bind_none, h1, h2, c1, call__law_next, e1, e2, dm, hm0, hq]
      · cases h
    · cases h
  · cases h
theorem call__law_tree {K : List Int} {m : Nat} (hk : okKs K = true) (hm : m ≤ 500) (i : Nat) (e : Ev) : callR (some f__law_tree) [.sl i, .dv (kD K), .dv (.int (m : Int))] e = popK (e.at i) (fun ns => (.val (.str (treeF K m ns).1), (treeF K m ns).2)) i e :=
  call_popFn (vs := [kD K, .int (m : Int)]) rfl (fun ns => by
    simp only [kD, intsD_map, Int.toNat_natCast]
    rw [if_pos ⟨hk, by omega, by omega⟩]) i e
end
end K10

set_option Elab.async false
set_option linter.all false
set_option maxRecDepth 100000
namespace K10
open Mini Gw Gc
/-! ### _law_end -/
def lendD (o : Option Nat) : D := match o with
  | some j => .int (j : Int)
  | none => .int (-1)
def f__law_end : Fn := ⟨[.val, .val, .val], [], fun ds => match ds with
  | [.tup xs, .str t, .int b] => (match intsD xs with
    | some K => if K.length ≤ 3 ∧ t.length ≤ 16777216 ∧ 0 ≤ b ∧ b ≤ 16777216 then some ⟨.val (lendD (endG K (t.drop b.toNat) b.toNat 1)), []⟩ else none
    | none => none)
  | _ => none⟩
theorem in_letters {K : List Int} (h3 : K.length ≤ 3) (c : Nat) : (c ∈ abc.take K.length) = ∃ j, abc.findIdx? (· == c) = some j ∧ j < K.length := by
  refine propext ⟨fun h => ?_, fun ⟨j, h1, h2⟩ => ?_⟩
  · obtain ⟨j, hj, e⟩ := List.mem_iff_getElem.mp h
    rw [List.length_take] at hj
    have hj3 : j < 3 := by have : abc.length = 3 := rfl; omega
    refine ⟨j, ?_, by omega⟩
    rw [List.getElem_take] at e
    rw [abc_find]
    have : j = 0 ∨ j = 1 ∨ j = 2 := by omega
    rcases this with rfl | rfl | rfl <;> subst e <;> rfl
  · rw [abc_find] at h1
    have mem : ∀ (j c : Nat), abc[j]? = some c → j < K.length → c ∈ abc.take K.length := fun j c hj hl => by
      refine List.mem_of_getElem? (i := j) ?_
      rw [List.getElem?_take, if_pos hl]; exact hj
    split at h1
    · rename_i hc; subst hc; cases h1; exact mem 0 97 rfl h2
    · split at h1
      · rename_i hc; subst hc; cases h1; exact mem 1 98 rfl h2
      · split at h1
        · rename_i hc; subst hc; cases h1; exact mem 2 99 rfl h2
        · cases h1
def lendStep (K : List Int) (kd : D) (t : List Nat) (b : Int) (s : Int × Ev) (p : Nat × Nat) : St1 (Int × Ev) := match sgW K p.1 with
  | none => .ret (.val (.int (-1))) (0, [.val kd, .val (.str t), .val (.int b), .val (.int s.1), .val (.int (p.2 : Int))])
  | some d => if s.1 + d = 0 then .ret (.val (.int ((p.2 + 1 : Nat) : Int))) (0, [.val kd, .val (.str t), .val (.int b), .val (.int (s.1 + d)), .val (.int (p.2 : Int))]) else .go (s.1 + d, [])
theorem lend_run (K : List Int) (kd : D) (t : List Nat) (b : Int) : ∀ (l : List Nat) (i : Nat) (s : Int × Ev), match endG K l i s.1 with
    | some j => ∃ s', St1.run (lendStep K kd t b) s (l.zipIdx i) = .ret (.val (.int (j : Int))) s'
    | none => (∃ s', St1.run (lendStep K kd t b) s (l.zipIdx i) = .ret (.val (.int (-1))) s') ∨ ∃ s', St1.run (lendStep K kd t b) s (l.zipIdx i) = .go s'
  | [], i, s => .inr ⟨s, rfl⟩
  | c :: r, i, s => by
    rw [List.zipIdx_cons]
    unfold endG St1.run
    cases h : sgW K c with
    | none =>
      simp only [lendStep, h]
      exact .inl ⟨_, rfl⟩
    | some d =>
      by_cases hz : s.1 + d = 0
      · simp only [lendStep, h, hz, if_true]
        exact ⟨_, rfl⟩
      · simp only [lendStep, h, if_neg hz]
        exact lend_run K kd t b r (i + 1) (s.1 + d, [])
section
variable {Γ : List Fn} {G : List D}
theorem lend_turn {K : List Int} (h3 : K.length ≤ 3) {t : List Nat} {b w : Int} {c i : Nat} (hc : t[i]? = some c) :
    turnF Γ G (.nm 4) bd__law_end_1 (.int (i : Int)) [.val (.tup (K.map .int)), .val (.str t), .val (.int b), .val (.int w), .no] =
      srT (fun s : Int × Ev => [.val (.tup (K.map .int)), .val (.str t), .val (.int b), .val (.int s.1), .no]) (fun s => s.2) (fun s => s.2) (lendStep K (.tup (K.map .int)) t b (w, []) (c, i)) := by
  have k1 : atI t (i : Int) = some c := Mini.atI_nat hc
  have hl : (K.map D.int).length = K.length := by simp
  have ct : Mini.cut [(97 : Nat), 98, 99] none (some (K.length : Int)) = abc.take K.length := cut_take abc K.length
  by_cases h46 : c = 46
  · subst h46
    have e : sgW K 46 = some (-1) := rfl
    have hw2 : w - 1 = w + -1 := by omega
    by_cases hw : w + -1 = 0
    · simp -implicitDefEqProofs [-List.map_map, turnF, bd__law_end_1, at0, atS, ofOut_some, ofOut_none, rdOp_eq, rdS_val, rdS_own, rdS_bor, rdS_ro, rdS_st, vS_val, vS_own, mvS_val, mvS_own, evE_v, evE_mv, evE_k, evE_g, evE_pr, primR_some, evO_nil, evO_cons', evP_rd, evP_v, evP_mv, evP_k, evP_g, evP_pr, evP_chain, evP_and, evP_or, evP_not, evP_ite, evP_slc, evP_meth, evP_call, evP_mu, evP_comp, opds_nil, opds_cons, cons2_some, get_dv, get_sl, getS_own0, getS_own1, getS_bor0, getS_bor1, getS_ro0, getS_ro1, getS_st0, stays_nilR, stays_consR, stay_dv, stay_sl, stS_ro, stS_st, evE_chain, chainR_bl, evE_and, evE_or, evE_not, evE_ite, evE_truth_rd, evE_truth_v, evE_truth_mv, evE_truth_k, evE_truth_g, evE_truth_pr, evE_truth_chain, evE_truth_and, evE_truth_or, evE_truth_not, evE_truth_ite, evE_truth_slc, evE_truth_meth, evE_truth_call, evE_truth_mu, evE_truth_comp, truO_some, truB_some, truD_non, truD_bl, truD_int, truD_str, truD_lst, truD_tup, evE_slc', evB_none, evB_some, slcR_some, slcF_lst, slcF_str, evE_meth', methR_some, recv_index, recv_split, recv_join, methF_index, methF_split, methF_join, evE_call, evE_mu, gSl_own, gSl_bor, muS_lst, muR_eq, muV_lst, muT_some, okE_some, sSl_own, sSl_bor, muL_append, muL_extend, muL_pop, muL_reverse, evE_comp, evC_none, evC_some, evS_set, evS_par, valK_some, valsOf_nil, valsOf_cons, parPut_nil, parPut_cons, evS_aug, augS_val, augT_val, evS_ex, evS_ret, evS_retN, evS_if, evS_for, evS_whl', evS_brk, evS_cnt, evS_pass, evS_rai, evSs_nil, evSs_cons, forR_seq, forR_tup, forR_str, prim1_add, prim2_add, prim3_add, prim4_sub, prim5_mul, prim6_mul, prim7_mul, prim8_fdiv, prim9_mod, prim10_pow, prim11_neg, prim12_eq, prim13_ne, prim14_lt, prim15_le, prim16_gt, prim17_ge, prim18_lt, prim19_le, prim20_gt, prim21_ge, prim22_isin, prim23_notin, prim24_isin, prim25_isin, prim26_notin, prim27_notin, prim28_isN, prim29_notN, prim30_isB, prim31_notB, prim32_ix, prim33_ix, prim34_ix, prim35_tup, prim36_lst, prim37_len, prim38_len, prim39_len, prim40_abs, prim41_int, prim42_int, prim43_int, prim44_ord, prim45_str, prim_repr, prim47_list, prim48_list, prim49_sum, prim50_any, prim51_all, Pr.need, isEmpty_snoc, Res.bind_ok, Res.bind_bad, Res.bind_exc, SR.of_ok, SR.of_bad, SR.of_exc, SR.then_nx, SR.then_ret, SR.then_brk, SR.then_cnt, SR.then_exc, SR.then_bad, SR.ofO_some, SR.ofO_none, toV_ok, toB_ok, toI_ok, Out.d_val, Out.d_own, putOut_val, putOut_tup, put_nm', put_own', put_tup, putL_nil, putL_cons, free_no, free_val, free_own, free_ro, free_st, free_bor, free_err, rdS_err, evE_isi, isiS_err, evE_callx, pickK_some, evP_isi, evP_callx, evE_truth_isi, evE_truth_callx, evS_wipe, evS_tryc, tryK_exc, tryK_nx, tryK_ret, tryK_brk, tryK_cnt, evHs_cons, suK_some, suiteEnd_ret, suiteEnd_nx, dropE_some, dropS_eq, clear_nil, clear_no, clear_val, clear_own, clear_bor, clear_ro, clear_st, catchE_eq, wipeE_nil, wipeE_cons, put_tupL, evS_stx, stxK_some, setIx_eq, setS_own, setS_bor, popK_own, popK_bor, foOut_val, foOut_own, foOut_exc, recv_scount, recv_sfind, recv_sindex, recv_lcount, methF_scount, methF_sfind, methF_sindex, methF_lcount, prim_inR, evS_augx, augK_some, augG_some, augP_some, getIx_eq, gxS_own, gxS_bor, Option.bind_some, Option.bind_none, k1, plain, deq_str, deq_int, lendStep, e, hw, hw2, srT]
    · have hw' : (w + -1 == 0) = false := by rw [beq_eq_false_iff_ne]; exact hw
      simp -implicitDefEqProofs [-List.map_map, turnF, bd__law_end_1, at0, atS, ofOut_some, ofOut_none, rdOp_eq, rdS_val, rdS_own, rdS_bor, rdS_ro, rdS_st, vS_val, vS_own, mvS_val, mvS_own, evE_v, evE_mv, evE_k, evE_g, evE_pr, primR_some, evO_nil, evO_cons', evP_rd, evP_v, evP_mv, evP_k, evP_g, evP_pr, evP_chain, evP_and, evP_or, evP_not, evP_ite, evP_slc, evP_meth, evP_call, evP_mu, evP_comp, opds_nil, opds_cons, cons2_some, get_dv, get_sl, getS_own0, getS_own1, getS_bor0, getS_bor1, getS_ro0, getS_ro1, getS_st0, stays_nilR, stays_consR, stay_dv, stay_sl, stS_ro, stS_st, evE_chain, chainR_bl, evE_and, evE_or, evE_not, evE_ite, evE_truth_rd, evE_truth_v, evE_truth_mv, evE_truth_k, evE_truth_g, evE_truth_pr, evE_truth_chain, evE_truth_and, evE_truth_or, evE_truth_not, evE_truth_ite, evE_truth_slc, evE_truth_meth, evE_truth_call, evE_truth_mu, evE_truth_comp, truO_some, truB_some, truD_non, truD_bl, truD_int, truD_str, truD_lst, truD_tup, evE_slc', evB_none, evB_some, slcR_some, slcF_lst, slcF_str, evE_meth', methR_some, recv_index, recv_split, recv_join, methF_index, methF_split, methF_join, evE_call, evE_mu, gSl_own, gSl_bor, muS_lst, muR_eq, muV_lst, muT_some, okE_some, sSl_own, sSl_bor, muL_append, muL_extend, muL_pop, muL_reverse, evE_comp, evC_none, evC_some, evS_set, evS_par, valK_some, valsOf_nil, valsOf_cons, parPut_nil, parPut_cons, evS_aug, augS_val, augT_val, evS_ex, evS_ret, evS_retN, evS_if, evS_for, evS_whl', evS_brk, evS_cnt, evS_pass, evS_rai, evSs_nil, evSs_cons, forR_seq, forR_tup, forR_str, prim1_add, prim2_add, prim3_add, prim4_sub, prim5_mul, prim6_mul, prim7_mul, prim8_fdiv, prim9_mod, prim10_pow, prim11_neg, prim12_eq, prim13_ne, prim14_lt, prim15_le, prim16_gt, prim17_ge, prim18_lt, prim19_le, prim20_gt, prim21_ge, prim22_isin, prim23_notin, prim24_isin, prim25_isin, prim26_notin, prim27_notin, prim28_isN, prim29_notN, prim30_isB, prim31_notB, prim32_ix, prim33_ix, prim34_ix, prim35_tup, prim36_lst, prim37_len, prim38_len, prim39_len, prim40_abs, prim41_int, prim42_int, prim43_int, prim44_ord, prim45_str, prim_repr, prim47_list, prim48_list, prim49_sum, prim50_any, prim51_all, Pr.need, isEmpty_snoc, Res.bind_ok, Res.bind_bad, Res.bind_exc, SR.of_ok, SR.of_bad, SR.of_exc, SR.then_nx, SR.then_ret, SR.then_brk, SR.then_cnt, SR.then_exc, SR.then_bad, SR.ofO_some, SR.ofO_none, toV_ok, toB_ok, toI_ok, Out.d_val, Out.d_own, putOut_val, putOut_tup, put_nm', put_own', put_tup, putL_nil, putL_cons, free_no, free_val, free_own, free_ro, free_st, free_bor, free_err, rdS_err, evE_isi, isiS_err, evE_callx, pickK_some, evP_isi, evP_callx, evE_truth_isi, evE_truth_callx, evS_wipe, evS_tryc, tryK_exc, tryK_nx, tryK_ret, tryK_brk, tryK_cnt, evHs_cons, suK_some, suiteEnd_ret, suiteEnd_nx, dropE_some, dropS_eq, clear_nil, clear_no, clear_val, clear_own, clear_bor, clear_ro, clear_st, catchE_eq, wipeE_nil, wipeE_cons, put_tupL, evS_stx, stxK_some, setIx_eq, setS_own, setS_bor, popK_own, popK_bor, foOut_val, foOut_own, foOut_exc, recv_scount, recv_sfind, recv_sindex, recv_lcount, methF_scount, methF_sfind, methF_sindex, methF_lcount, prim_inR, evS_augx, augK_some, augG_some, augP_some, getIx_eq, gxS_own, gxS_bor, Option.bind_some, Option.bind_none, k1, plain, deq_str, deq_int, lendStep, e, hw, hw', hw2, srT]
  · have hb : (c == 46) = false := by rw [beq_eq_false_iff_ne]; exact h46
    have il := in_letters h3 c
    cases hf : abc.findIdx? (· == c) with
    | none =>
      have e : sgW K c = none := by unfold sgW; rw [if_neg h46, hf]; rfl
      have hm : decide (c ∈ abc.take K.length) = false := decide_eq_false fun z => by
        rw [il] at z
        obtain ⟨j, h1, _⟩ := z
        rw [hf] at h1; cases h1
      generalize abc.take K.length = l9 at *
      simp -implicitDefEqProofs [-List.map_map, -decide_eq_true_eq, -decide_eq_false_iff_not, turnF, bd__law_end_1, at0, atS, ofOut_some, ofOut_none, rdOp_eq, rdS_val, rdS_own, rdS_bor, rdS_ro, rdS_st, vS_val, vS_own, mvS_val, mvS_own, evE_v, evE_mv, evE_k, evE_g, evE_pr, primR_some, evO_nil, evO_cons', evP_rd, evP_v, evP_mv, evP_k, evP_g, evP_pr, evP_chain, evP_and, evP_or, evP_not, evP_ite, evP_slc, evP_meth, evP_call, evP_mu, evP_comp, opds_nil, opds_cons, cons2_some, get_dv, get_sl, getS_own0, getS_own1, getS_bor0, getS_bor1, getS_ro0, getS_ro1, getS_st0, stays_nilR, stays_consR, stay_dv, stay_sl, stS_ro, stS_st, evE_chain, chainR_bl, evE_and, evE_or, evE_not, evE_ite, evE_truth_rd, evE_truth_v, evE_truth_mv, evE_truth_k, evE_truth_g, evE_truth_pr, evE_truth_chain, evE_truth_and, evE_truth_or, evE_truth_not, evE_truth_ite, evE_truth_slc, evE_truth_meth, evE_truth_call, evE_truth_mu, evE_truth_comp, truO_some, truB_some, truD_non, truD_bl, truD_int, truD_str, truD_lst, truD_tup, evE_slc', evB_none, evB_some, slcR_some, slcF_lst, slcF_str, evE_meth', methR_some, recv_index, recv_split, recv_join, methF_index, methF_split, methF_join, evE_call, evE_mu, gSl_own, gSl_bor, muS_lst, muR_eq, muV_lst, muT_some, okE_some, sSl_own, sSl_bor, muL_append, muL_extend, muL_pop, muL_reverse, evE_comp, evC_none, evC_some, evS_set, evS_par, valK_some, valsOf_nil, valsOf_cons, parPut_nil, parPut_cons, evS_aug, augS_val, augT_val, evS_ex, evS_ret, evS_retN, evS_if, evS_for, evS_whl', evS_brk, evS_cnt, evS_pass, evS_rai, evSs_nil, evSs_cons, forR_seq, forR_tup, forR_str, prim1_add, prim2_add, prim3_add, prim4_sub, prim5_mul, prim6_mul, prim7_mul, prim8_fdiv, prim9_mod, prim10_pow, prim11_neg, prim12_eq, prim13_ne, prim14_lt, prim15_le, prim16_gt, prim17_ge, prim18_lt, prim19_le, prim20_gt, prim21_ge, prim22_isin, prim23_notin, prim24_isin, prim25_isin, prim26_notin, prim27_notin, prim28_isN, prim29_notN, prim30_isB, prim31_notB, prim32_ix, prim33_ix, prim34_ix, prim35_tup, prim36_lst, prim37_len, prim38_len, prim39_len, prim40_abs, prim41_int, prim42_int, prim43_int, prim44_ord, prim45_str, prim_repr, prim47_list, prim48_list, prim49_sum, prim50_any, prim51_all, Pr.need, isEmpty_snoc, Res.bind_ok, Res.bind_bad, Res.bind_exc, SR.of_ok, SR.of_bad, SR.of_exc, SR.then_nx, SR.then_ret, SR.then_brk, SR.then_cnt, SR.then_exc, SR.then_bad, SR.ofO_some, SR.ofO_none, toV_ok, toB_ok, toI_ok, Out.d_val, Out.d_own, putOut_val, putOut_tup, put_nm', put_own', put_tup, putL_nil, putL_cons, free_no, free_val, free_own, free_ro, free_st, free_bor, free_err, rdS_err, evE_isi, isiS_err, evE_callx, pickK_some, evP_isi, evP_callx, evE_truth_isi, evE_truth_callx, evS_wipe, evS_tryc, tryK_exc, tryK_nx, tryK_ret, tryK_brk, tryK_cnt, evHs_cons, suK_some, suiteEnd_ret, suiteEnd_nx, dropE_some, dropS_eq, clear_nil, clear_no, clear_val, clear_own, clear_bor, clear_ro, clear_st, catchE_eq, wipeE_nil, wipeE_cons, put_tupL, evS_stx, stxK_some, setIx_eq, setS_own, setS_bor, popK_own, popK_bor, foOut_val, foOut_own, foOut_exc, recv_scount, recv_sfind, recv_sindex, recv_lcount, methF_scount, methF_sfind, methF_sindex, methF_lcount, prim_inR, evS_augx, augK_some, augG_some, augP_some, getIx_eq, gxS_own, gxS_bor, Option.bind_some, Option.bind_none, k1, plain, deq_str, deq_int, lendStep, e, hb, h46, hl, ct, hm, srT]
    | some j =>
      by_cases hj : j < K.length
      · have hm : decide (c ∈ abc.take K.length) = true := decide_eq_true (by rw [il]; exact ⟨j, hf, hj⟩)
        obtain ⟨k, hk⟩ : ∃ k, K[j]? = some k := ⟨K[j], List.getElem?_eq_getElem hj⟩
        have e : sgW K c = some (k - 1) := by unfold sgW; rw [if_neg h46, hf]; simp [hk]
        have k2 : atI (K.map D.int) (j : Int) = some (.int k) := Mini.atI_nat (by rw [List.getElem?_map, hk]; rfl)
        have hf' : ([97, 98, 99] : List Nat).findIdx? (· == c) = some j := hf
        have hw2 : w + k - 1 = w + (k - 1) := by omega
        generalize abc.take K.length = l9 at *
        by_cases hw : w + (k - 1) = 0
        · simp -implicitDefEqProofs [-List.map_map, -decide_eq_true_eq, -decide_eq_false_iff_not, -List.findIdx?_cons, turnF, bd__law_end_1, at0, atS, ofOut_some, ofOut_none, rdOp_eq, rdS_val, rdS_own, rdS_bor, rdS_ro, rdS_st, vS_val, vS_own, mvS_val, mvS_own, evE_v, evE_mv, evE_k, evE_g, evE_pr, primR_some, evO_nil, evO_cons', evP_rd, evP_v, evP_mv, evP_k, evP_g, evP_pr, evP_chain, evP_and, evP_or, evP_not, evP_ite, evP_slc, evP_meth, evP_call, evP_mu, evP_comp, opds_nil, opds_cons, cons2_some, get_dv, get_sl, getS_own0, getS_own1, getS_bor0, getS_bor1, getS_ro0, getS_ro1, getS_st0, stays_nilR, stays_consR, stay_dv, stay_sl, stS_ro, stS_st, evE_chain, chainR_bl, evE_and, evE_or, evE_not, evE_ite, evE_truth_rd, evE_truth_v, evE_truth_mv, evE_truth_k, evE_truth_g, evE_truth_pr, evE_truth_chain, evE_truth_and, evE_truth_or, evE_truth_not, evE_truth_ite, evE_truth_slc, evE_truth_meth, evE_truth_call, evE_truth_mu, evE_truth_comp, truO_some, truB_some, truD_non, truD_bl, truD_int, truD_str, truD_lst, truD_tup, evE_slc', evB_none, evB_some, slcR_some, slcF_lst, slcF_str, evE_meth', methR_some, recv_index, recv_split, recv_join, methF_index, methF_split, methF_join, evE_call, evE_mu, gSl_own, gSl_bor, muS_lst, muR_eq, muV_lst, muT_some, okE_some, sSl_own, sSl_bor, muL_append, muL_extend, muL_pop, muL_reverse, evE_comp, evC_none, evC_some, evS_set, evS_par, valK_some, valsOf_nil, valsOf_cons, parPut_nil, parPut_cons, evS_aug, augS_val, augT_val, evS_ex, evS_ret, evS_retN, evS_if, evS_for, evS_whl', evS_brk, evS_cnt, evS_pass, evS_rai, evSs_nil, evSs_cons, forR_seq, forR_tup, forR_str, prim1_add, prim2_add, prim3_add, prim4_sub, prim5_mul, prim6_mul, prim7_mul, prim8_fdiv, prim9_mod, prim10_pow, prim11_neg, prim12_eq, prim13_ne, prim14_lt, prim15_le, prim16_gt, prim17_ge, prim18_lt, prim19_le, prim20_gt, prim21_ge, prim22_isin, prim23_notin, prim24_isin, prim25_isin, prim26_notin, prim27_notin, prim28_isN, prim29_notN, prim30_isB, prim31_notB, prim32_ix, prim33_ix, prim34_ix, prim35_tup, prim36_lst, prim37_len, prim38_len, prim39_len, prim40_abs, prim41_int, prim42_int, prim43_int, prim44_ord, prim45_str, prim_repr, prim47_list, prim48_list, prim49_sum, prim50_any, prim51_all, Pr.need, isEmpty_snoc, Res.bind_ok, Res.bind_bad, Res.bind_exc, SR.of_ok, SR.of_bad, SR.of_exc, SR.then_nx, SR.then_ret, SR.then_brk, SR.then_cnt, SR.then_exc, SR.then_bad, SR.ofO_some, SR.ofO_none, toV_ok, toB_ok, toI_ok, Out.d_val, Out.d_own, putOut_val, putOut_tup, put_nm', put_own', put_tup, putL_nil, putL_cons, free_no, free_val, free_own, free_ro, free_st, free_bor, free_err, rdS_err, evE_isi, isiS_err, evE_callx, pickK_some, evP_isi, evP_callx, evE_truth_isi, evE_truth_callx, evS_wipe, evS_tryc, tryK_exc, tryK_nx, tryK_ret, tryK_brk, tryK_cnt, evHs_cons, suK_some, suiteEnd_ret, suiteEnd_nx, dropE_some, dropS_eq, clear_nil, clear_no, clear_val, clear_own, clear_bor, clear_ro, clear_st, catchE_eq, wipeE_nil, wipeE_cons, put_tupL, evS_stx, stxK_some, setIx_eq, setS_own, setS_bor, popK_own, popK_bor, foOut_val, foOut_own, foOut_exc, recv_scount, recv_sfind, recv_sindex, recv_lcount, methF_scount, methF_sfind, methF_sindex, methF_lcount, prim_inR, evS_augx, augK_some, augG_some, augP_some, getIx_eq, gxS_own, gxS_bor, Option.bind_some, Option.bind_none, k1, k2, hf', plain, deq_str, deq_int, lendStep, e, hb, h46, hl, ct, hm, hw, hw2, srT]
        · have hw' : (w + (k - 1) == 0) = false := by rw [beq_eq_false_iff_ne]; exact hw
          simp -implicitDefEqProofs [-List.map_map, -decide_eq_true_eq, -decide_eq_false_iff_not, -List.findIdx?_cons, turnF, bd__law_end_1, at0, atS, ofOut_some, ofOut_none, rdOp_eq, rdS_val, rdS_own, rdS_bor, rdS_ro, rdS_st, vS_val, vS_own, mvS_val, mvS_own, evE_v, evE_mv, evE_k, evE_g, evE_pr, primR_some, evO_nil, evO_cons', evP_rd, evP_v, evP_mv, evP_k, evP_g, evP_pr, evP_chain, evP_and, evP_or, evP_not, evP_ite, evP_slc, evP_meth, evP_call, evP_mu, evP_comp, opds_nil, opds_cons, cons2_some, get_dv, get_sl, getS_own0, getS_own1, getS_bor0, getS_bor1, getS_ro0, getS_ro1, getS_st0, stays_nilR, stays_consR, stay_dv, stay_sl, stS_ro, stS_st, evE_chain, chainR_bl, evE_and, evE_or, evE_not, evE_ite, evE_truth_rd, evE_truth_v, evE_truth_mv, evE_truth_k, evE_truth_g, evE_truth_pr, evE_truth_chain, evE_truth_and, evE_truth_or, evE_truth_not, evE_truth_ite, evE_truth_slc, evE_truth_meth, evE_truth_call, evE_truth_mu, evE_truth_comp, truO_some, truB_some, truD_non, truD_bl, truD_int, truD_str, truD_lst, truD_tup, evE_slc', evB_none, evB_some, slcR_some, slcF_lst, slcF_str, evE_meth', methR_some, recv_index, recv_split, recv_join, methF_index, methF_split, methF_join, evE_call, evE_mu, gSl_own, gSl_bor, muS_lst, muR_eq, muV_lst, muT_some, okE_some, sSl_own, sSl_bor, muL_append, muL_extend, muL_pop, muL_reverse, evE_comp, evC_none, evC_some, evS_set, evS_par, valK_some, valsOf_nil, valsOf_cons, parPut_nil, parPut_cons, evS_aug, augS_val, augT_val, evS_ex, evS_ret, evS_retN, evS_if, evS_for, evS_whl', evS_brk, evS_cnt, evS_pass, evS_rai, evSs_nil, evSs_cons, forR_seq, forR_tup, forR_str, prim1_add, prim2_add, prim3_add, prim4_sub, prim5_mul, prim6_mul, prim7_mul, prim8_fdiv, prim9_mod, prim10_pow, prim11_neg, prim12_eq, prim13_ne, prim14_lt, prim15_le, prim16_gt, prim17_ge, prim18_lt, prim19_le, prim20_gt, prim21_ge, prim22_isin, prim23_notin, prim24_isin, prim25_isin, prim26_notin, prim27_notin, prim28_isN, prim29_notN, prim30_isB, prim31_notB, prim32_ix, prim33_ix, prim34_ix, prim35_tup, prim36_lst, prim37_len, prim38_len, prim39_len, prim40_abs, prim41_int, prim42_int, prim43_int, prim44_ord, prim45_str, prim_repr, prim47_list, prim48_list, prim49_sum, prim50_any, prim51_all, Pr.need, isEmpty_snoc, Res.bind_ok, Res.bind_bad, Res.bind_exc, SR.of_ok, SR.of_bad, SR.of_exc, SR.then_nx, SR.then_ret, SR.then_brk, SR.then_cnt, SR.then_exc, SR.then_bad, SR.ofO_some, SR.ofO_none, toV_ok, toB_ok, toI_ok, Out.d_val, Out.d_own, putOut_val, putOut_tup, put_nm', put_own', put_tup, putL_nil, putL_cons, free_no, free_val, free_own, free_ro, free_st, free_bor, free_err, rdS_err, evE_isi, isiS_err, evE_callx, pickK_some, evP_isi, evP_callx, evE_truth_isi, evE_truth_callx, evS_wipe, evS_tryc, tryK_exc, tryK_nx, tryK_ret, tryK_brk, tryK_cnt, evHs_cons, suK_some, suiteEnd_ret, suiteEnd_nx, dropE_some, dropS_eq, clear_nil, clear_no, clear_val, clear_own, clear_bor, clear_ro, clear_st, catchE_eq, wipeE_nil, wipeE_cons, put_tupL, evS_stx, stxK_some, setIx_eq, setS_own, setS_bor, popK_own, popK_bor, foOut_val, foOut_own, foOut_exc, recv_scount, recv_sfind, recv_sindex, recv_lcount, methF_scount, methF_sfind, methF_sindex, methF_lcount, prim_inR, evS_augx, augK_some, augG_some, augP_some, getIx_eq, gxS_own, gxS_bor, Option.bind_some, Option.bind_none, k1, k2, hf', plain, deq_str, deq_int, lendStep, e, hb, h46, hl, ct, hm, hw, hw', hw2, srT]
      · have hm : decide (c ∈ abc.take K.length) = false := decide_eq_false fun z => by
          rw [il] at z
          obtain ⟨j', h1, h2⟩ := z
          rw [hf] at h1; cases h1; exact hj h2
        have hk : K[j]? = none := List.getElem?_eq_none (by omega)
        have e : sgW K c = none := by unfold sgW; rw [if_neg h46, hf]; simp [hk]
        generalize abc.take K.length = l9 at *
        simp -implicitDefEqProofs [-List.map_map, -decide_eq_true_eq, -decide_eq_false_iff_not, turnF, bd__law_end_1, at0, atS, ofOut_some, ofOut_none, rdOp_eq, rdS_val, rdS_own, rdS_bor, rdS_ro, rdS_st, vS_val, vS_own, mvS_val, mvS_own, evE_v, evE_mv, evE_k, evE_g, evE_pr, primR_some, evO_nil, evO_cons', evP_rd, evP_v, evP_mv, evP_k, evP_g, evP_pr, evP_chain, evP_and, evP_or, evP_not, evP_ite, evP_slc, evP_meth, evP_call, evP_mu, evP_comp, opds_nil, opds_cons, cons2_some, get_dv, get_sl, getS_own0, getS_own1, getS_bor0, getS_bor1, getS_ro0, getS_ro1, getS_st0, stays_nilR, stays_consR, stay_dv, stay_sl, stS_ro, stS_st, evE_chain, chainR_bl, evE_and, evE_or, evE_not, evE_ite, evE_truth_rd, evE_truth_v, evE_truth_mv, evE_truth_k, evE_truth_g, evE_truth_pr, evE_truth_chain, evE_truth_and, evE_truth_or, evE_truth_not, evE_truth_ite, evE_truth_slc, evE_truth_meth, evE_truth_call, evE_truth_mu, evE_truth_comp, truO_some, truB_some, truD_non, truD_bl, truD_int, truD_str, truD_lst, truD_tup, evE_slc', evB_none, evB_some, slcR_some, slcF_lst, slcF_str, evE_meth', methR_some, recv_index, recv_split, recv_join, methF_index, methF_split, methF_join, evE_call, evE_mu, gSl_own, gSl_bor, muS_lst, muR_eq, muV_lst, muT_some, okE_some, sSl_own, sSl_bor, muL_append, muL_extend, muL_pop, muL_reverse, evE_comp, evC_none, evC_some, evS_set, evS_par, valK_some, valsOf_nil, valsOf_cons, parPut_nil, parPut_cons, evS_aug, augS_val, augT_val, evS_ex, evS_ret, evS_retN, evS_if, evS_for, evS_whl', evS_brk, evS_cnt, evS_pass, evS_rai, evSs_nil, evSs_cons, forR_seq, forR_tup, forR_str, prim1_add, prim2_add, prim3_add, prim4_sub, prim5_mul, prim6_mul, prim7_mul, prim8_fdiv, prim9_mod, prim10_pow, prim11_neg, prim12_eq, prim13_ne, prim14_lt, prim15_le, prim16_gt, prim17_ge, prim18_lt, prim19_le, prim20_gt, prim21_ge, prim22_isin, prim23_notin, prim24_isin, prim25_isin, prim26_notin, prim27_notin, prim28_isN, prim29_notN, prim30_isB, prim31_notB, prim32_ix, prim33_ix, prim34_ix, prim35_tup, prim36_lst, prim37_len, prim38_len, prim39_len, prim40_abs, prim41_int, prim42_int, prim43_int, prim44_ord, prim45_str, prim_repr, prim47_list, prim48_list, prim49_sum, prim50_any, prim51_all, Pr.need, isEmpty_snoc, Res.bind_ok, Res.bind_bad, Res.bind_exc, SR.of_ok, SR.of_bad, SR.of_exc, SR.then_nx, SR.then_ret, SR.then_brk, SR.then_cnt, SR.then_exc, SR.then_bad, SR.ofO_some, SR.ofO_none, toV_ok, toB_ok, toI_ok, Out.d_val, Out.d_own, putOut_val, putOut_tup, put_nm', put_own', put_tup, putL_nil, putL_cons, free_no, free_val, free_own, free_ro, free_st, free_bor, free_err, rdS_err, evE_isi, isiS_err, evE_callx, pickK_some, evP_isi, evP_callx, evE_truth_isi, evE_truth_callx, evS_wipe, evS_tryc, tryK_exc, tryK_nx, tryK_ret, tryK_brk, tryK_cnt, evHs_cons, suK_some, suiteEnd_ret, suiteEnd_nx, dropE_some, dropS_eq, clear_nil, clear_no, clear_val, clear_own, clear_bor, clear_ro, clear_st, catchE_eq, wipeE_nil, wipeE_cons, put_tupL, evS_stx, stxK_some, setIx_eq, setS_own, setS_bor, popK_own, popK_bor, foOut_val, foOut_own, foOut_exc, recv_scount, recv_sfind, recv_sindex, recv_lcount, methF_scount, methF_sfind, methF_sindex, methF_lcount, prim_inR, evS_augx, augK_some, augG_some, augP_some, getIx_eq, gxS_own, gxS_bor, Option.bind_some, Option.bind_none, k1, plain, deq_str, deq_int, lendStep, e, hb, h46, hl, ct, hm, srT]
theorem fin5v {a b c : D} {ss : List S} {r : SR} {x : Option FRes} (h : evSs Γ G ss [.val a, .val b, .val c, .no, .no] = r) (hr : leave [.val, .val, .val] r = x) : runDef Γ G 5 [.val, .val, .val] ss [a, b, c] = x := by
  unfold runDef
  rw [if_pos (by rfl)]
  show leave _ (evSs Γ G ss [.val a, .val b, .val c, .no, .no]) = _
  rw [h, hr]
theorem lend_loop {K : List Int} (h3 : K.length ≤ 3) {t : List Nat} {b : Nat} :
    forRun (turnF Γ G (.nm 4) bd__law_end_1) (((t.drop b).zipIdx b).map fun p => D.int (p.2 : Int)) [.val (.tup (K.map .int)), .val (.str t), .val (.int (b : Int)), .val (.int 1), .no] =
      srE (fun s : Int × Ev => [.val (.tup (K.map .int)), .val (.str t), .val (.int (b : Int)), .val (.int s.1), .no]) (fun s => s.2) (fun s => s.2) (St1.run (lendStep K (.tup (K.map .int)) t (b : Int)) (1, []) ((t.drop b).zipIdx b)) := by
  refine forRun_eq (body := turnF Γ G (.nm 4) bd__law_end_1) (fun p : Nat × Nat => D.int (p.2 : Int)) (fun s : Int × Ev => [.val (.tup (K.map .int)), .val (.str t), .val (.int (b : Int)), .val (.int s.1), .no]) (fun s => s.2) (fun s => s.2)
    (fun r _ => ∀ p ∈ r, t[p.2]? = some p.1) (lendStep K (.tup (K.map .int)) t (b : Int)) (fun s p r hI => ?_) _ (1, []) (fun p hp => ?_)
  · obtain ⟨c, i⟩ := p
    have := lend_turn (Γ := Γ) (G := G) h3 (b := (b : Int)) (w := s.1) (hI (c, i) List.mem_cons_self)
    refine ⟨?_, fun _ _ q hq => hI q (List.mem_cons_of_mem _ hq)⟩
    have e : lendStep K (.tup (K.map .int)) t (b : Int) (s.1, []) (c, i) = lendStep K (.tup (K.map .int)) t (b : Int) s (c, i) := rfl
    rw [← e]; exact this
  · obtain ⟨c, i⟩ := p
    have := List.mem_zipIdx hp
    obtain ⟨a1, a2, a3⟩ := this
    have h3 : (t.drop b)[i - b]? = some c := by
      rw [List.getElem?_eq_getElem (by omega)]
      exact congrArg some a3.symm
    rw [List.getElem?_drop] at h3
    rwa [show b + (i - b) = i from by omega] at h3
theorem sem__law_end : ∀ ds r, f__law_end.mf ds = some r → runDef Γ G N__law_end f__law_end.modes ss__law_end ds = some r := by
  intro ds r h
  simp only [f__law_end] at h
  split at h
  · rename_i xs t b
    split at h
    · rename_i K hK
      split at h
      · rename_i hc
        cases h
        obtain ⟨c1, c2, c3, c4⟩ := hc
        obtain ⟨n, rfl⟩ := Int.eq_ofNat_of_zero_le c3
        rw [intsD_inv hK, Int.toNat_natCast]
        have key := lend_loop (Γ := Γ) (G := G) c1 (t := t) (b := n)
        have it : items .rng2 [.int (n : Int), .int (t.length : Int)] = some (((t.drop n).zipIdx n).map fun p => D.int (p.2 : Int)) := by
          rw [items_rng2 (small62_of (by omega) (by omega)) (small62_of (by omega) (by omega)), ← zip_items, List.length_drop]
          rw [show ((t.length : Int) - (n : Int)).toNat = t.length - n from by omega]
        have run := lend_run K (.tup (K.map .int)) t (n : Int) (t.drop n) n (1, [])
        generalize St1.run (lendStep K (.tup (K.map .int)) t (n : Int)) (1, []) ((t.drop n).zipIdx n) = q at *
        generalize ((t.drop n).zipIdx n).map (fun p => D.int (p.2 : Int)) = l0 at *
        generalize K.map D.int = l1 at *
        cases he : endG K (t.drop n) n 1 with
        | some j =>
          rw [he] at run
          obtain ⟨s', rfl⟩ := run
          refine fin5v (r := .ret (.val (.int (j : Int))) s'.2) ?_ rfl
          simp -implicitDefEqProofs [ss__law_end, at0, atS, ofOut_some, ofOut_none, rdOp_eq, rdS_val, rdS_own, rdS_bor, rdS_ro, rdS_st, vS_val, vS_own, mvS_val, mvS_own, evE_v, evE_mv, evE_k, evE_g, evE_pr, primR_some, evO_nil, evO_cons', evP_rd, evP_v, evP_mv, evP_k, evP_g, evP_pr, evP_chain, evP_and, evP_or, evP_not, evP_ite, evP_slc, evP_meth, evP_call, evP_mu, evP_comp, opds_nil, opds_cons, cons2_some, get_dv, get_sl, getS_own0, getS_own1, getS_bor0, getS_bor1, getS_ro0, getS_ro1, getS_st0, stays_nilR, stays_consR, stay_dv, stay_sl, stS_ro, stS_st, evE_chain, chainR_bl, evE_and, evE_or, evE_not, evE_ite, evE_truth_rd, evE_truth_v, evE_truth_mv, evE_truth_k, evE_truth_g, evE_truth_pr, evE_truth_chain, evE_truth_and, evE_truth_or, evE_truth_not, evE_truth_ite, evE_truth_slc, evE_truth_meth, evE_truth_call, evE_truth_mu, evE_truth_comp, truO_some, truB_some, truD_non, truD_bl, truD_int, truD_str, truD_lst, truD_tup, evE_slc', evB_none, evB_some, slcR_some, slcF_lst, slcF_str, evE_meth', methR_some, recv_index, recv_split, recv_join, methF_index, methF_split, methF_join, evE_call, evE_mu, gSl_own, gSl_bor, muS_lst, muR_eq, muV_lst, muT_some, okE_some, sSl_own, sSl_bor, muL_append, muL_extend, muL_pop, muL_reverse, evE_comp, evC_none, evC_some, evS_set, evS_par, valK_some, valsOf_nil, valsOf_cons, parPut_nil, parPut_cons, evS_aug, augS_val, augT_val, evS_ex, evS_ret, evS_retN, evS_if, evS_for, evS_whl', evS_brk, evS_cnt, evS_pass, evS_rai, evSs_nil, evSs_cons, forR_seq, forR_tup, forR_str, prim1_add, prim2_add, prim3_add, prim4_sub, prim5_mul, prim6_mul, prim7_mul, prim8_fdiv, prim9_mod, prim10_pow, prim11_neg, prim12_eq, prim13_ne, prim14_lt, prim15_le, prim16_gt, prim17_ge, prim18_lt, prim19_le, prim20_gt, prim21_ge, prim22_isin, prim23_notin, prim24_isin, prim25_isin, prim26_notin, prim27_notin, prim28_isN, prim29_notN, prim30_isB, prim31_notB, prim32_ix, prim33_ix, prim34_ix, prim35_tup, prim36_lst, prim37_len, prim38_len, prim39_len, prim40_abs, prim41_int, prim42_int, prim43_int, prim44_ord, prim45_str, prim_repr, prim47_list, prim48_list, prim49_sum, prim50_any, prim51_all, Pr.need, isEmpty_snoc, Res.bind_ok, Res.bind_bad, Res.bind_exc, SR.of_ok, SR.of_bad, SR.of_exc, SR.then_nx, SR.then_ret, SR.then_brk, SR.then_cnt, SR.then_exc, SR.then_bad, SR.ofO_some, SR.ofO_none, toV_ok, toB_ok, toI_ok, Out.d_val, Out.d_own, putOut_val, putOut_tup, put_nm', put_own', put_tup, putL_nil, putL_cons, free_no, free_val, free_own, free_ro, free_st, free_bor, free_err, rdS_err, evE_isi, isiS_err, evE_callx, pickK_some, evP_isi, evP_callx, evE_truth_isi, evE_truth_callx, evS_wipe, evS_tryc, tryK_exc, tryK_nx, tryK_ret, tryK_brk, tryK_cnt, evHs_cons, suK_some, suiteEnd_ret, suiteEnd_nx, dropE_some, dropS_eq, clear_nil, clear_no, clear_val, clear_own, clear_bor, clear_ro, clear_st, catchE_eq, wipeE_nil, wipeE_cons, put_tupL, evS_stx, stxK_some, setIx_eq, setS_own, setS_bor, popK_own, popK_bor, foOut_val, foOut_own, foOut_exc, recv_scount, recv_sfind, recv_sindex, recv_lcount, methF_scount, methF_sfind, methF_sindex, methF_lcount, prim_inR, evS_augx, augK_some, augG_some, augP_some, getIx_eq, gxS_own, gxS_bor, Option.bind_some, Option.bind_none, forR_some _ _ _ _ it, key, srE]
        | none =>
          rw [he] at run
          rcases run with ⟨s', rfl⟩ | ⟨s', rfl⟩
          · refine fin5v (r := .ret (.val (.int (-1))) s'.2) ?_ rfl
            simp -implicitDefEqProofs [ss__law_end, at0, atS, ofOut_some, ofOut_none, rdOp_eq, rdS_val, rdS_own, rdS_bor, rdS_ro, rdS_st, vS_val, vS_own, mvS_val, mvS_own, evE_v, evE_mv, evE_k, evE_g, evE_pr, primR_some, evO_nil, evO_cons', evP_rd, evP_v, evP_mv, evP_k, evP_g, evP_pr, evP_chain, evP_and, evP_or, evP_not, evP_ite, evP_slc, evP_meth, evP_call, evP_mu, evP_comp, opds_nil, opds_cons, cons2_some, get_dv, get_sl, getS_own0, getS_own1, getS_bor0, getS_bor1, getS_ro0, getS_ro1, getS_st0, stays_nilR, stays_consR, stay_dv, stay_sl, stS_ro, stS_st, evE_chain, chainR_bl, evE_and, evE_or, evE_not, evE_ite, evE_truth_rd, evE_truth_v, evE_truth_mv, evE_truth_k, evE_truth_g, evE_truth_pr, evE_truth_chain, evE_truth_and, evE_truth_or, evE_truth_not, evE_truth_ite, evE_truth_slc, evE_truth_meth, evE_truth_call, evE_truth_mu, evE_truth_comp, truO_some, truB_some, truD_non, truD_bl, truD_int, truD_str, truD_lst, truD_tup, evE_slc', evB_none, evB_some, slcR_some, slcF_lst, slcF_str, evE_meth', methR_some, recv_index, recv_split, recv_join, methF_index, methF_split, methF_join, evE_call, evE_mu, gSl_own, gSl_bor, muS_lst, muR_eq, muV_lst, muT_some, okE_some, sSl_own, sSl_bor, muL_append, muL_extend, muL_pop, muL_reverse, evE_comp, evC_none, evC_some, evS_set, evS_par, valK_some, valsOf_nil, valsOf_cons, parPut_nil, parPut_cons, evS_aug, augS_val, augT_val, evS_ex, evS_ret, evS_retN, evS_if, evS_for, evS_whl', evS_brk, evS_cnt, evS_pass, evS_rai, evSs_nil, evSs_cons, forR_seq, forR_tup, forR_str, prim1_add, prim2_add, prim3_add, prim4_sub, prim5_mul, prim6_mul, prim7_mul, prim8_fdiv, prim9_mod, prim10_pow, prim11_neg, prim12_eq, prim13_ne, prim14_lt, prim15_le, prim16_gt, prim17_ge, prim18_lt, prim19_le, prim20_gt, prim21_ge, prim22_isin, prim23_notin, prim24_isin, prim25_isin, prim26_notin, prim27_notin, prim28_isN, prim29_notN, prim30_isB, prim31_notB, prim32_ix, prim33_ix, prim34_ix, prim35_tup, prim36_lst, prim37_len, prim38_len, prim39_len, prim40_abs, prim41_int, prim42_int, prim43_int, prim44_ord, prim45_str, prim_repr, prim47_list, prim48_list, prim49_sum, prim50_any, prim51_all, Pr.need, isEmpty_snoc, Res.bind_ok, Res.bind_bad, Res.bind_exc, SR.of_ok, SR.of_bad, SR.of_exc, SR.then_nx, SR.then_ret, SR.then_brk, SR.then_cnt, SR.then_exc, SR.then_bad, SR.ofO_some, SR.ofO_none, toV_ok, toB_ok, toI_ok, Out.d_val, Out.d_own, putOut_val, putOut_tup, put_nm', put_own', put_tup, putL_nil, putL_cons, free_no, free_val, free_own, free_ro, free_st, free_bor, free_err, rdS_err, evE_isi, isiS_err, evE_callx, pickK_some, evP_isi, evP_callx, evE_truth_isi, evE_truth_callx, evS_wipe, evS_tryc, tryK_exc, tryK_nx, tryK_ret, tryK_brk, tryK_cnt, evHs_cons, suK_some, suiteEnd_ret, suiteEnd_nx, dropE_some, dropS_eq, clear_nil, clear_no, clear_val, clear_own, clear_bor, clear_ro, clear_st, catchE_eq, wipeE_nil, wipeE_cons, put_tupL, evS_stx, stxK_some, setIx_eq, setS_own, setS_bor, popK_own, popK_bor, foOut_val, foOut_own, foOut_exc, recv_scount, recv_sfind, recv_sindex, recv_lcount, methF_scount, methF_sfind, methF_sindex, methF_lcount, prim_inR, evS_augx, augK_some, augG_some, augP_some, getIx_eq, gxS_own, gxS_bor, Option.bind_some, Option.bind_none, forR_some _ _ _ _ it, key, srE]
          · refine fin5v (r := .ret (.val (.int (-1))) [.val (.tup l1), .val (.str t), .val (.int (n : Int)), .no, .no]) ?_ rfl
            simp -implicitDefEqProofs [ss__law_end, at0, atS, ofOut_some, ofOut_none, rdOp_eq, rdS_val, rdS_own, rdS_bor, rdS_ro, rdS_st, vS_val, vS_own, mvS_val, mvS_own, evE_v, evE_mv, evE_k, evE_g, evE_pr, primR_some, evO_nil, evO_cons', evP_rd, evP_v, evP_mv, evP_k, evP_g, evP_pr, evP_chain, evP_and, evP_or, evP_not, evP_ite, evP_slc, evP_meth, evP_call, evP_mu, evP_comp, opds_nil, opds_cons, cons2_some, get_dv, get_sl, getS_own0, getS_own1, getS_bor0, getS_bor1, getS_ro0, getS_ro1, getS_st0, stays_nilR, stays_consR, stay_dv, stay_sl, stS_ro, stS_st, evE_chain, chainR_bl, evE_and, evE_or, evE_not, evE_ite, evE_truth_rd, evE_truth_v, evE_truth_mv, evE_truth_k, evE_truth_g, evE_truth_pr, evE_truth_chain, evE_truth_and, evE_truth_or, evE_truth_not, evE_truth_ite, evE_truth_slc, evE_truth_meth, evE_truth_call, evE_truth_mu, evE_truth_comp, truO_some, truB_some, truD_non, truD_bl, truD_int, truD_str, truD_lst, truD_tup, evE_slc', evB_none, evB_some, slcR_some, slcF_lst, slcF_str, evE_meth', methR_some, recv_index, recv_split, recv_join, methF_index, methF_split, methF_join, evE_call, evE_mu, gSl_own, gSl_bor, muS_lst, muR_eq, muV_lst, muT_some, okE_some, sSl_own, sSl_bor, muL_append, muL_extend, muL_pop, muL_reverse, evE_comp, evC_none, evC_some, evS_set, evS_par, valK_some, valsOf_nil, valsOf_cons, parPut_nil, parPut_cons, evS_aug, augS_val, augT_val, evS_ex, evS_ret, evS_retN, evS_if, evS_for, evS_whl', evS_brk, evS_cnt, evS_pass, evS_rai, evSs_nil, evSs_cons, forR_seq, forR_tup, forR_str, prim1_add, prim2_add, prim3_add, prim4_sub, prim5_mul, prim6_mul, prim7_mul, prim8_fdiv, prim9_mod, prim10_pow, prim11_neg, prim12_eq, prim13_ne, prim14_lt, prim15_le, prim16_gt, prim17_ge, prim18_lt, prim19_le, prim20_gt, prim21_ge, prim22_isin, prim23_notin, prim24_isin, prim25_isin, prim26_notin, prim27_notin, prim28_isN, prim29_notN, prim30_isB, prim31_notB, prim32_ix, prim33_ix, prim34_ix, prim35_tup, prim36_lst, prim37_len, prim38_len, prim39_len, prim40_abs, prim41_int, prim42_int, prim43_int, prim44_ord, prim45_str, prim_repr, prim47_list, prim48_list, prim49_sum, prim50_any, prim51_all, Pr.need, isEmpty_snoc, Res.bind_ok, Res.bind_bad, Res.bind_exc, SR.of_ok, SR.of_bad, SR.of_exc, SR.then_nx, SR.then_ret, SR.then_brk, SR.then_cnt, SR.then_exc, SR.then_bad, SR.ofO_some, SR.ofO_none, toV_ok, toB_ok, toI_ok, Out.d_val, Out.d_own, putOut_val, putOut_tup, put_nm', put_own', put_tup, putL_nil, putL_cons, free_no, free_val, free_own, free_ro, free_st, free_bor, free_err, rdS_err, evE_isi, isiS_err, evE_callx, pickK_some, evP_isi, evP_callx, evE_truth_isi, evE_truth_callx, evS_wipe, evS_tryc, tryK_exc, tryK_nx, tryK_ret, tryK_brk, tryK_cnt, evHs_cons, suK_some, suiteEnd_ret, suiteEnd_nx, dropE_some, dropS_eq, clear_nil, clear_no, clear_val, clear_own, clear_bor, clear_ro, clear_st, catchE_eq, wipeE_nil, wipeE_cons, put_tupL, evS_stx, stxK_some, setIx_eq, setS_own, setS_bor, popK_own, popK_bor, foOut_val, foOut_own, foOut_exc, recv_scount, recv_sfind, recv_sindex, recv_lcount, methF_scount, methF_sfind, methF_sindex, methF_lcount, prim_inR, evS_augx, augK_some, augG_some, augP_some, getIx_eq, gxS_own, gxS_bor, Option.bind_some, Option.bind_none, forR_some _ _ _ _ it, key, srE]
      · cases h
    · cases h
  · cases h
theorem call__law_end {K : List Int} {t : List Nat} {b : Nat} {e : Ev} (h : K.length ≤ 3 ∧ t.length ≤ 16777216 ∧ b ≤ 16777216) : callR (some f__law_end) [.dv (kD K), .dv (.str t), .dv (.int (b : Int))] e = .ok (.val (lendD (endG K (t.drop b) b 1))) e := by
  have : f__law_end.mf [kD K, .str t, .int (b : Int)] = some ⟨.val (lendD (endG K (t.drop b) b 1)), []⟩ := by
    simp only [f__law_end, kD, intsD_map, Int.toNat_natCast]
    rw [if_pos ⟨h.1, h.2.1, by omega, by omega⟩]
  have q1 : f__law_end.modes = [.val, .val, .val] := rfl
  have q2 : f__law_end.dflt = [] := rfl
  generalize kD K = l1 at *
  simp [callR, argsGet, argGet, apart, bors, lsl, putBack, foOut, q1, q2, this]
/-! ### _law_is_tree -/
theorem end_dot {K : List Int} (hK : okKs K = true) : ∀ (l : List Nat) (i : Nat) (w : Int) (j : Nat), 1 ≤ w → endG K l i w = some j → 46 ∈ l
  | [], i, w, j, hw, h => by cases h
  | c :: r, i, w, j, hw, h => by
    unfold endG at h
    by_cases h46 : c = 46
    · subst h46; exact List.mem_cons_self
    · cases hs : sgW K c with
      | none => rw [hs] at h; cases h
      | some d =>
        rw [hs] at h
        simp only at h
        have hd : 0 ≤ d := by
          unfold sgW at hs
          rw [if_neg h46] at hs
          cases hf : abc.findIdx? (· == c) with
          | none => rw [hf] at hs; cases hs
          | some q =>
            rw [hf] at hs
            simp only [Option.bind_some, Option.map_eq_some_iff] at hs
            obtain ⟨k, hk, rfl⟩ := hs
            have hq : q < K.length := (List.getElem?_eq_some_iff.mp hk).1
            have := okKs_at hK hq
            rw [List.getD_eq_getElem?_getD, hk] at this
            simp at this
            omega
        split at h
        · omega
        · exact List.mem_cons_of_mem _ (end_dot hK r (i + 1) (w + d) j (by omega) h)
theorem lets_len (t : List Nat) : ((letsF t).length : Int) = sizF t := by
  have key : ∀ (l : List Nat) (p : Nat → Bool), (l.filter p).length + (l.filter fun i => !p i).length = l.length := by
    intro l p
    induction l with
    | nil => rfl
    | cons x l ih =>
      cases h : p x <;> simp [List.filter_cons, h] <;> omega
  have h1 := key (List.range t.length) (fun i => t.getD i 0 == 46)
  have h2 : ((List.range t.length).filter fun i => t.getD i 0 == 46).length = t.count 46 := by
    have e : (List.range t.length).map (fun i => t.getD i 0) = t := by
      refine List.ext_getElem (by simp) fun i a b => ?_
      simp [List.getD_eq_getElem?_getD, List.getElem?_eq_getElem b]
    have : t.count 46 = ((List.range t.length).map (fun i => t.getD i 0)).count 46 := by rw [e]
    rw [this, List.count, List.countP_map, ← List.countP_eq_length_filter]
    rfl
  rw [List.length_range] at h1
  unfold sizF letsF
  omega
def f__law_is_tree : Fn := ⟨[.val, .val], [], fun ds => match ds with
  | [.tup xs, .str t] => (match intsD xs with
    | some K => if okKs K = true ∧ t.length ≤ 1000000 then some ⟨.val (.bl (isT K t)), []⟩ else none
    | none => none)
  | _ => none⟩
theorem fin2l {a b : D} {ss : List S} {r : SR} {x : Option FRes} (h : evSs Γ G ss [.val a, .val b] = r) (hr : leave [.val, .val] r = x) : runDef Γ G 2 [.val, .val] ss [a, b] = x := fin2w h hr
theorem sem__law_is_tree {f1 f2 : Nat} (h1 : Γ[f1]? = some f__law_letters) (h2 : Γ[f2]? = some f__law_end) : ∀ ds r, f__law_is_tree.mf ds = some r → runDef Γ G N__law_is_tree f__law_is_tree.modes (ss__law_is_tree f1 f2) ds = some r := by
  intro ds r h
  simp only [f__law_is_tree] at h
  split at h
  · rename_i xs t
    split at h
    · rename_i K hK
      split at h
      · rename_i hc
        cases h
        obtain ⟨hk, hl⟩ := hc
        have kl := okKs_len hk
        rw [intsD_inv hK]
        have c1 := fun e => call__law_letters (t := t) (e := e) hl
        have c2 := fun e => call__law_end (K := K) (t := t) (b := 0) (e := e) ⟨kl.2, by omega, by omega⟩
        rw [List.drop_zero, Int.natCast_zero] at c2
        have ll : ((natsD (letsF t)).length : Int) = sizF t := by rw [← lets_len]; simp [natsD]
        have pd : plain 60 (lendD (endG K t 0 1)) = true := by cases endG K t 0 1 <;> rfl
        have dd : deq (lendD (endG K t 0 1)) (.int (t.length : Int)) = (endG K t 0 1 == some t.length) := by
          cases endG K t 0 1 with
          | none =>
            show ((-1 : Int) == (t.length : Int)) = false
            rw [beq_eq_false_iff_ne]; omega
          | some j =>
            show ((j : Int) == (t.length : Int)) = _
            rw [Bool.eq_iff_iff]; simp; omega
        have hd := end_dot hk t 0 1
        refine fin2l (r := .ret (.val (.bl (isT K t))) [.val (kD K), .val (.str t)]) ?_ rfl
        have isTe : isT K t = (!(t == []) && ((endG K t 0 1 == some t.length) && (decide (sizF t < 10) && decide (((t.count 46 : Nat) : Int) < 15)))) := by
          unfold isT okS
          cases he : endG K t 0 1 with
          | none => simp
          | some j =>
            have hm := hd j (by omega) he
            have hc : 1 ≤ t.count 46 := List.count_pos_iff.mpr hm
            have hs : 0 ≤ sizF t := by
              unfold sizF
              have := List.count_le_length (a := 46) (l := t)
              omega
            have hn : (t == []) = false := by rw [beq_eq_false_iff_ne]; intro z; subst z; cases hm
            rw [hn]
            have a1 : decide (0 ≤ sizF t) = true := decide_eq_true hs
            have a2 : decide (1 ≤ ((t.count 46 : Nat) : Int)) = true := decide_eq_true (by omega)
            have a3 : decide (sizF t ≤ 9) = decide (sizF t < 10) := by rw [Bool.eq_iff_iff]; simp; omega
            have a4 : decide (((t.count 46 : Nat) : Int) ≤ 14) = decide (((t.count 46 : Nat) : Int) < 15) := by rw [Bool.eq_iff_iff]; simp; omega
            rw [a1, a2, a3, a4]
            simp
        rw [isTe]
        generalize endG K t 0 1 = o at *
        generalize lendD o = od at *
        generalize natsD (letsF t) = l0 at *
        change evSs Γ G (ss__law_is_tree f1 f2) [.val (kD K), .val (.str t)] = _
        generalize kD K = l1 at *
        generalize (o == some t.length) = b1 at *
        cases hb3 : decide (((t.count 46 : Nat) : Int) < 15) <;>
        cases hb0 : (t == []) <;> cases b1 <;> cases hb2 : decide (sizF t < 10) <;>
        simp -implicitDefEqProofs [-decide_eq_true_eq, -decide_eq_false_iff_not, -List.beq_nil_eq, -List.isEmpty_iff, ss__law_is_tree, at0, atS, ofOut_some, ofOut_none, rdOp_eq, rdS_val, rdS_own, rdS_bor, rdS_ro, rdS_st, vS_val, vS_own, mvS_val, mvS_own, evE_v, evE_mv, evE_k, evE_g, evE_pr, primR_some, evO_nil, evO_cons', evP_rd, evP_v, evP_mv, evP_k, evP_g, evP_pr, evP_chain, evP_and, evP_or, evP_not, evP_ite, evP_slc, evP_meth, evP_call, evP_mu, evP_comp, opds_nil, opds_cons, cons2_some, get_dv, get_sl, getS_own0, getS_own1, getS_bor0, getS_bor1, getS_ro0, getS_ro1, getS_st0, stays_nilR, stays_consR, stay_dv, stay_sl, stS_ro, stS_st, evE_chain, chainR_bl, evE_and, evE_or, evE_not, evE_ite, evE_truth_rd, evE_truth_v, evE_truth_mv, evE_truth_k, evE_truth_g, evE_truth_pr, evE_truth_chain, evE_truth_and, evE_truth_or, evE_truth_not, evE_truth_ite, evE_truth_slc, evE_truth_meth, evE_truth_call, evE_truth_mu, evE_truth_comp, truO_some, truB_some, truD_non, truD_bl, truD_int, truD_str, truD_lst, truD_tup, evE_slc', evB_none, evB_some, slcR_some, slcF_lst, slcF_str, evE_meth', methR_some, recv_index, recv_split, recv_join, methF_index, methF_split, methF_join, evE_call, evE_mu, gSl_own, gSl_bor, muS_lst, muR_eq, muV_lst, muT_some, okE_some, sSl_own, sSl_bor, muL_append, muL_extend, muL_pop, muL_reverse, evE_comp, evC_none, evC_some, evS_set, evS_par, valK_some, valsOf_nil, valsOf_cons, parPut_nil, parPut_cons, evS_aug, augS_val, augT_val, evS_ex, evS_ret, evS_retN, evS_if, evS_for, evS_whl', evS_brk, evS_cnt, evS_pass, evS_rai, evSs_nil, evSs_cons, forR_seq, forR_tup, forR_str, prim1_add, prim2_add, prim3_add, prim4_sub, prim5_mul, prim6_mul, prim7_mul, prim8_fdiv, prim9_mod, prim10_pow, prim11_neg, prim12_eq, prim13_ne, prim14_lt, prim15_le, prim16_gt, prim17_ge, prim18_lt, prim19_le, prim20_gt, prim21_ge, prim22_isin, prim23_notin, prim24_isin, prim25_isin, prim26_notin, prim27_notin, prim28_isN, prim29_notN, prim30_isB, prim31_notB, prim32_ix, prim33_ix, prim34_ix, prim35_tup, prim36_lst, prim37_len, prim38_len, prim39_len, prim40_abs, prim41_int, prim42_int, prim43_int, prim44_ord, prim45_str, prim_repr, prim47_list, prim48_list, prim49_sum, prim50_any, prim51_all, Pr.need, isEmpty_snoc, Res.bind_ok, Res.bind_bad, Res.bind_exc, SR.of_ok, SR.of_bad, SR.of_exc, SR.then_nx, SR.then_ret, SR.then_brk, SR.then_cnt, SR.then_exc, SR.then_bad, SR.ofO_some, SR.ofO_none, toV_ok, toB_ok, toI_ok, Out.d_val, Out.d_own, putOut_val, putOut_tup, put_nm', put_own', put_tup, putL_nil, putL_cons, free_no, free_val, free_own, free_ro, free_st, free_bor, free_err, rdS_err, evE_isi, isiS_err, evE_callx, pickK_some, evP_isi, evP_callx, evE_truth_isi, evE_truth_callx, evS_wipe, evS_tryc, tryK_exc, tryK_nx, tryK_ret, tryK_brk, tryK_cnt, evHs_cons, suK_some, suiteEnd_ret, suiteEnd_nx, dropE_some, dropS_eq, clear_nil, clear_no, clear_val, clear_own, clear_bor, clear_ro, clear_st, catchE_eq, wipeE_nil, wipeE_cons, put_tupL, evS_stx, stxK_some, setIx_eq, setS_own, setS_bor, popK_own, popK_bor, foOut_val, foOut_own, foOut_exc, recv_scount, recv_sfind, recv_sindex, recv_lcount, methF_scount, methF_sfind, methF_sindex, methF_lcount, prim_inR, evS_augx, augK_some, augG_some, augP_some, getIx_eq, gxS_own, gxS_bor, Option.bind_some, Option.bind_none, h1, h2, c1, c2, pd, dd, ll, plain, deq_str, hb0, hb2, hb3]
      · cases h
    · cases h
  · cases h
end
end K10

set_option Elab.async false
set_option linter.all false
set_option maxRecDepth 100000
namespace K10
open Mini Gw Gc
/-! ### _law_kind -/
def kindNames : List (List Nat) := [[107, 105, 110, 100, 115], [116, 114, 101, 101], [110, 117, 109, 98, 101, 114], [108, 97, 114, 103, 101], [97, 110, 115, 119, 101, 114]]
def kindV (bs : List Bool) (g : Bool) : List Nat := if bs.count true = 1 ∧ g = true then 33 :: kindNames.getD (bs.findIdx id) [] else [33, 111, 116, 104, 101, 114]
def f__law_kind (uK uT uB uL uA uG : List Nat) : Fn := ⟨[.err], [], fun ds => match ds with
  | [.obj c []] => some ⟨.val (.str (kindV [uK.contains c, uT.contains c, uB.contains c, uL.contains c, uA.contains c] (uG.contains c))), []⟩
  | _ => none⟩
theorem sem__law_kind {Γ : List Fn} {G : List D} {cK cT cB cL cA cG : Nat} {uK uT uB uL uA uG : List Nat} : ∀ ds r, (f__law_kind uK uT uB uL uA uG).mf ds = some r → runDef Γ G N__law_kind (f__law_kind uK uT uB uL uA uG).modes (ss__law_kind cK uK cT uT cB uB cL uL cA uA cG uG) ds = some r := by
  intro ds r h
  simp only [f__law_kind] at h
  split at h
  · rename_i c
    cases h
    have s2 : 2 ≤ SZ := by decide
    have s3 : 3 ≤ SZ := by decide
    have s5 : 5 ≤ SZ := by decide
    have s6 : 6 ≤ SZ := by decide
    have s7 : 7 ≤ SZ := by decide
    have m : (f__law_kind uK uT uB uL uA uG).modes = [.err] := rfl
    rw [m]
    have nm : ∀ k : Nat, k < 5 → atI [D.str [107, 105, 110, 100, 115], D.str [116, 114, 101, 101], D.str [110, 117, 109, 98, 101, 114], D.str [108, 97, 114, 103, 101], D.str [97, 110, 115, 119, 101, 114]] (k : Int) = some (.str (kindNames.getD k [])) := by
      intro k hk
      refine Mini.atI_nat ?_
      match k, hk with
      | 0, _ => rfl
      | 1, _ => rfl
      | 2, _ => rfl
      | 3, _ => rfl
      | 4, _ => rfl
    have n0 := nm 0 (by omega)
    have n1 := nm 1 (by omega)
    have n2 := nm 2 (by omega)
    have n3 := nm 3 (by omega)
    have n4 := nm 4 (by omega)
    simp only [Int.natCast_zero, Int.natCast_one] at n0 n1
    change atI _ (2 : Int) = _ at n2
    change atI _ (3 : Int) = _ at n3
    change atI _ (4 : Int) = _ at n4
    cases b1 : uK.contains c <;> cases b2 : uT.contains c <;> cases b3 : uB.contains c <;> cases b4 : uL.contains c <;> cases b5 : uA.contains c <;> cases b6 : uG.contains c <;>
    simp [-List.contains_eq_mem, runDef, leave, backs, enter, N__law_kind, ss__law_kind, at0, atS, ofOut_some, ofOut_none, rdOp_eq, rdS_val, rdS_own, rdS_bor, rdS_ro, rdS_st, vS_val, vS_own, mvS_val, mvS_own, evE_v, evE_mv, evE_k, evE_g, evE_pr, primR_some, evO_nil, evO_cons', evP_rd, evP_v, evP_mv, evP_k, evP_g, evP_pr, evP_chain, evP_and, evP_or, evP_not, evP_ite, evP_slc, evP_meth, evP_call, evP_mu, evP_comp, opds_nil, opds_cons, cons2_some, get_dv, get_sl, getS_own0, getS_own1, getS_bor0, getS_bor1, getS_ro0, getS_ro1, getS_st0, stays_nilR, stays_consR, stay_dv, stay_sl, stS_ro, stS_st, evE_chain, chainR_bl, evE_and, evE_or, evE_not, evE_ite, evE_truth_rd, evE_truth_v, evE_truth_mv, evE_truth_k, evE_truth_g, evE_truth_pr, evE_truth_chain, evE_truth_and, evE_truth_or, evE_truth_not, evE_truth_ite, evE_truth_slc, evE_truth_meth, evE_truth_call, evE_truth_mu, evE_truth_comp, truO_some, truB_some, truD_non, truD_bl, truD_int, truD_str, truD_lst, truD_tup, evE_slc', evB_none, evB_some, slcR_some, slcF_lst, slcF_str, evE_meth', methR_some, recv_index, recv_split, recv_join, methF_index, methF_split, methF_join, evE_call, evE_mu, gSl_own, gSl_bor, muS_lst, muR_eq, muV_lst, muT_some, okE_some, sSl_own, sSl_bor, muL_append, muL_extend, muL_pop, muL_reverse, evE_comp, evC_none, evC_some, evS_set, evS_par, valK_some, valsOf_nil, valsOf_cons, parPut_nil, parPut_cons, evS_aug, augS_val, augT_val, evS_ex, evS_ret, evS_retN, evS_if, evS_for, evS_whl', evS_brk, evS_cnt, evS_pass, evS_rai, evSs_nil, evSs_cons, forR_seq, forR_tup, forR_str, prim1_add, prim2_add, prim3_add, prim4_sub, prim5_mul, prim6_mul, prim7_mul, prim8_fdiv, prim9_mod, prim10_pow, prim11_neg, prim12_eq, prim13_ne, prim14_lt, prim15_le, prim16_gt, prim17_ge, prim18_lt, prim19_le, prim20_gt, prim21_ge, prim22_isin, prim23_notin, prim24_isin, prim25_isin, prim26_notin, prim27_notin, prim28_isN, prim29_notN, prim30_isB, prim31_notB, prim32_ix, prim33_ix, prim34_ix, prim35_tup, prim36_lst, prim37_len, prim38_len, prim39_len, prim40_abs, prim41_int, prim42_int, prim43_int, prim44_ord, prim45_str, prim_repr, prim47_list, prim48_list, prim49_sum, prim50_any, prim51_all, Pr.need, isEmpty_snoc, Res.bind_ok, Res.bind_bad, Res.bind_exc, SR.of_ok, SR.of_bad, SR.of_exc, SR.then_nx, SR.then_ret, SR.then_brk, SR.then_cnt, SR.then_exc, SR.then_bad, SR.ofO_some, SR.ofO_none, toV_ok, toB_ok, toI_ok, Out.d_val, Out.d_own, putOut_val, putOut_tup, put_nm', put_own', put_tup, putL_nil, putL_cons, free_no, free_val, free_own, free_ro, free_st, free_bor, free_err, rdS_err, evE_isi, isiS_err, evE_callx, pickK_some, evP_isi, evP_callx, evE_truth_isi, evE_truth_callx, evS_wipe, evS_tryc, tryK_exc, tryK_nx, tryK_ret, tryK_brk, tryK_cnt, evHs_cons, suK_some, suiteEnd_ret, suiteEnd_nx, dropE_some, dropS_eq, clear_nil, clear_no, clear_val, clear_own, clear_bor, clear_ro, clear_st, catchE_eq, wipeE_nil, wipeE_cons, put_tupL, evS_stx, stxK_some, setIx_eq, setS_own, setS_bor, popK_own, popK_bor, foOut_val, foOut_own, foOut_exc, recv_scount, recv_sfind, recv_sindex, recv_lcount, methF_scount, methF_sfind, methF_sindex, methF_lcount, prim_inR, evS_augx, augK_some, augG_some, augP_some, getIx_eq, gxS_own, gxS_bor, Option.bind_some, Option.bind_none, b1, b2, b3, b4, b5, b6, s2, s3, s5, s6, s7, flat, deq, plain, kindV, kindNames, List.findIdx?_cons, List.findIdx_cons, List.countP_cons, n0, n1, n2, n3, n4]
  · cases h
end K10

set_option Elab.async false
set_option linter.all false
set_option maxRecDepth 100000
namespace K10
open Mini Gw Gc
def errK (s : Sl) (m : Ex → Option FRes) (e : Ev) : Res Out := match s with
  | .err x => (match m x with
    | some ⟨o, []⟩ => foOut o e
    | _ => .bad)
  | _ => .bad
theorem errK_err (x : Ex) (m : Ex → Option FRes) (e : Ev) : errK (.err x) m e = match m x with
    | some ⟨o, []⟩ => foOut o e
    | _ => .bad := rfl
theorem call_err1 {m : List D → Option FRes} (i : Nat) (e : Ev) : callR (some ⟨[.err], [], m⟩) [.sl i] e = errK (e.at i) (fun x => m [.obj x.cls x.args]) e := by
  cases q : e.at i <;> first
    | (simp [callR, argsGet, argGet, q, errK]; done)
    | skip
  rename_i x
  have h : argGet e .err (.sl i) = some (.obj x.cls x.args) := by simp [argGet, q]
  simp only [callR, List.map_nil, List.append_nil, argsGet, h, apart, bors, errK]
  cases m [.obj x.cls x.args] with
  | none => rfl
  | some r =>
    obtain ⟨o, b⟩ := r
    cases b <;> rfl
def kindC (uK uT uB uL uA uG : List Nat) (c : Nat) : List Nat := kindV [uK.contains c, uT.contains c, uB.contains c, uL.contains c, uA.contains c] (uG.contains c)
theorem call__law_kind {uK uT uB uL uA uG : List Nat} (i : Nat) (e : Ev) : callR (some (f__law_kind uK uT uB uL uA uG)) [.sl i] e = errK (e.at i) (fun x => (f__law_kind uK uT uB uL uA uG).mf [.obj x.cls x.args]) e := call_err1 i e
theorem mf__law_kind {uK uT uB uL uA uG : List Nat} (c : Nat) : (f__law_kind uK uT uB uL uA uG).mf [.obj c []] = some ⟨.val (.str (kindC uK uT uB uL uA uG c)), []⟩ := rfl
/-! ### _law_told -/
def sK : List Nat := [33, 107, 105, 110, 100, 115]
def sT : List Nat := [33, 116, 114, 101, 101]
def toldD (K : List Int) (t : List Nat) (w : Nat) : D := if isK K then (match w with
  | 0 => .non
  | 1 => .bl (isT K t)
  | 2 => if isT K t then .non else .str sT
  | 3 => if isT K t then .int (sizF t) else .str sT
  | _ => if isT K t then .int ((t.count 46 : Nat) : Int) else .str sT) else .str sK
def f__law_told : Fn := ⟨[.val, .val, .val], [], fun ds => match ds with
  | [.int w, .tup xs, .str t] => (match intsD xs with
    | some K => if 0 ≤ w ∧ w < 5 ∧ okT K t = true then some ⟨.val (toldD K t w.toNat), []⟩ else none
    | none => none)
  | _ => none⟩
section
variable {Γ : List Fn} {G : List D}
theorem fin4w {a b c : D} {ss : List S} {r : SR} {x : Option FRes} (h : evSs Γ G ss [.val a, .val b, .val c, .no] = r) (hr : leave [.val, .val, .val] r = x) : runDef Γ G 4 [.val, .val, .val] ss [a, b, c] = x := by
  unfold runDef
  rw [if_pos (by rfl)]
  show leave _ (evSs Γ G ss [.val a, .val b, .val c, .no]) = _
  rw [h, hr]
theorem sem__law_told {cK cT f1 f2 f3 f4 f5 f6 : Nat} {uK uT uB uL uA uG : List Nat} (h1 : Γ[f1]? = some (f_check_kinds cK)) (h2 : Γ[f2]? = some (f_is_tree cK)) (h3 : Γ[f3]? = some (f_check_tree cK cT)) (h4 : Γ[f4]? = some (f_size cK cT)) (h5 : Γ[f5]? = some (f_width cK cT)) (h6 : Γ[f6]? = some (f__law_kind uK uT uB uL uA uG))
    (mK : cK ∈ uG) (mT : cT ∈ uG) (vK : kindC uK uT uB uL uA uG cK = sK) (vT : kindC uK uT uB uL uA uG cT = sT) : ∀ ds r, f__law_told.mf ds = some r → runDef Γ G N__law_told f__law_told.modes (ss__law_told f1 f2 f3 f4 f5 uG f6) ds = some r := by
  intro ds r h
  simp only [f__law_told] at h
  split at h
  · rename_i w xs t
    split at h
    · rename_i K hK
      split at h
      · rename_i hc
        cases h
        obtain ⟨w0, w5, ok⟩ := hc
        rw [intsD_inv hK]
        have q0 : atI [f2, f3, f4, f5] 0 = some f2 := by simp [atI, ixN]
        have q1 : atI [f2, f3, f4, f5] 1 = some f3 := by simp [atI, ixN]
        have q2 : atI [f2, f3, f4, f5] 2 = some f4 := by simp [atI, ixN]
        have q3 : atI [f2, f3, f4, f5] 3 = some f5 := by simp [atI, ixN]
        have c1 := fun e => call_check_kinds (c := cK) (K := K) (e := e) (okT_inv ok).1
        have c2 := fun e => call_is_tree (c := cK) (K := K) (t := t) (e := e) ok
        have c3 := fun e => call_check_tree (c := cK) (n := cT) (K := K) (t := t) (e := e) ok
        have c4 : ∀ e, callR (some (f_size cK cT)) [.dv (kD K), .dv (.str t)] e = foOut (behT cK cT (fun _ t => .val (.int (sizF t))) K t) e := fun e => call_kt ok
        have c5 : ∀ e, callR (some (f_width cK cT)) [.dv (kD K), .dv (.str t)] e = foOut (behT cK cT (fun _ t => .val (.int ((t.count 46 : Nat) : Int))) K t) e := fun e => call_kt ok
        have m : f__law_told.modes = [.val, .val, .val] := rfl
        rw [m]
        have kk := mf__law_kind (uK := uK) (uT := uT) (uB := uB) (uL := uL) (uA := uA) (uG := uG)
        change runDef Γ G 4 _ _ [.int w, kD K, .str t] = _
        generalize kD K = l1 at *
        have hw : w = 0 ∨ w = 1 ∨ w = 2 ∨ w = 3 ∨ w = 4 := by omega
        cases hk : isK K <;> cases ht : isT K t <;> simp only [behT, hk, ht] at c1 c2 c3 c4 c5 <;> rcases hw with rfl | rfl | rfl | rfl | rfl <;>
        (refine fin4w (h := rfl) ?_
         simp -implicitDefEqProofs [leave, backs, ss__law_told, at0, atS, ofOut_some, ofOut_none, rdOp_eq, rdS_val, rdS_own, rdS_bor, rdS_ro, rdS_st, vS_val, vS_own, mvS_val, mvS_own, evE_v, evE_mv, evE_k, evE_g, evE_pr, primR_some, evO_nil, evO_cons', evP_rd, evP_v, evP_mv, evP_k, evP_g, evP_pr, evP_chain, evP_and, evP_or, evP_not, evP_ite, evP_slc, evP_meth, evP_call, evP_mu, evP_comp, opds_nil, opds_cons, cons2_some, get_dv, get_sl, getS_own0, getS_own1, getS_bor0, getS_bor1, getS_ro0, getS_ro1, getS_st0, stays_nilR, stays_consR, stay_dv, stay_sl, stS_ro, stS_st, evE_chain, chainR_bl, evE_and, evE_or, evE_not, evE_ite, evE_truth_rd, evE_truth_v, evE_truth_mv, evE_truth_k, evE_truth_g, evE_truth_pr, evE_truth_chain, evE_truth_and, evE_truth_or, evE_truth_not, evE_truth_ite, evE_truth_slc, evE_truth_meth, evE_truth_call, evE_truth_mu, evE_truth_comp, truO_some, truB_some, truD_non, truD_bl, truD_int, truD_str, truD_lst, truD_tup, evE_slc', evB_none, evB_some, slcR_some, slcF_lst, slcF_str, evE_meth', methR_some, recv_index, recv_split, recv_join, methF_index, methF_split, methF_join, evE_call, evE_mu, gSl_own, gSl_bor, muS_lst, muR_eq, muV_lst, muT_some, okE_some, sSl_own, sSl_bor, muL_append, muL_extend, muL_pop, muL_reverse, evE_comp, evC_none, evC_some, evS_set, evS_par, valK_some, valsOf_nil, valsOf_cons, parPut_nil, parPut_cons, evS_aug, augS_val, augT_val, evS_ex, evS_ret, evS_retN, evS_if, evS_for, evS_whl', evS_brk, evS_cnt, evS_pass, evS_rai, evSs_nil, evSs_cons, forR_seq, forR_tup, forR_str, prim1_add, prim2_add, prim3_add, prim4_sub, prim5_mul, prim6_mul, prim7_mul, prim8_fdiv, prim9_mod, prim10_pow, prim11_neg, prim12_eq, prim13_ne, prim14_lt, prim15_le, prim16_gt, prim17_ge, prim18_lt, prim19_le, prim20_gt, prim21_ge, prim22_isin, prim23_notin, prim24_isin, prim25_isin, prim26_notin, prim27_notin, prim28_isN, prim29_notN, prim30_isB, prim31_notB, prim32_ix, prim33_ix, prim34_ix, prim35_tup, prim36_lst, prim37_len, prim38_len, prim39_len, prim40_abs, prim41_int, prim42_int, prim43_int, prim44_ord, prim45_str, prim_repr, prim47_list, prim48_list, prim49_sum, prim50_any, prim51_all, Pr.need, isEmpty_snoc, Res.bind_ok, Res.bind_bad, Res.bind_exc, SR.of_ok, SR.of_bad, SR.of_exc, SR.then_nx, SR.then_ret, SR.then_brk, SR.then_cnt, SR.then_exc, SR.then_bad, SR.ofO_some, SR.ofO_none, toV_ok, toB_ok, toI_ok, Out.d_val, Out.d_own, putOut_val, putOut_tup, put_nm', put_own', put_tup, putL_nil, putL_cons, free_no, free_val, free_own, free_ro, free_st, free_bor, free_err, rdS_err, evE_isi, isiS_err, evE_callx, pickK_some, evP_isi, evP_callx, evE_truth_isi, evE_truth_callx, evS_wipe, evS_tryc, tryK_exc, tryK_nx, tryK_ret, tryK_brk, tryK_cnt, evHs_cons, suK_some, suiteEnd_ret, suiteEnd_nx, dropE_some, dropS_eq, clear_nil, clear_no, clear_val, clear_own, clear_bor, clear_ro, clear_st, catchE_eq, wipeE_nil, wipeE_cons, put_tupL, evS_stx, stxK_some, setIx_eq, setS_own, setS_bor, popK_own, popK_bor, foOut_val, foOut_own, foOut_exc, recv_scount, recv_sfind, recv_sindex, recv_lcount, methF_scount, methF_sfind, methF_sindex, methF_lcount, prim_inR, evS_augx, augK_some, augG_some, augP_some, getIx_eq, gxS_own, gxS_bor, Option.bind_some, Option.bind_none, q0, q1, q2, q3, h1, h2, h3, h4, h5, h6, c1, c2, c3, c4, c5, call__law_kind, errK_err, kk, mK, mT, vK, vT, toldD, hk, ht, plain, deq_int])
      · cases h
    · cases h
  · cases h
theorem call__law_told {K : List Int} {t : List Nat} {w : Nat} {e : Ev} (hw : w < 5) (ok : okT K t = true) : callR (some f__law_told) [.dv (.int (w : Int)), .dv (kD K), .dv (.str t)] e = .ok (.val (toldD K t w)) e := by
  have : f__law_told.mf [.int (w : Int), kD K, .str t] = some ⟨.val (toldD K t w), []⟩ := by
    simp only [f__law_told, kD, intsD_map, Int.toNat_natCast]
    rw [if_pos ⟨by omega, by omega, ok⟩]
  have q1 : f__law_told.modes = [.val, .val, .val] := rfl
  have q2 : f__law_told.dflt = [] := rfl
  generalize kD K = l1 at *
  simp [callR, argsGet, argGet, apart, bors, lsl, putBack, foOut, q1, q2, this]
end
end K10

set_option Elab.async false
set_option linter.all false
set_option maxRecDepth 100000
namespace K10
open Mini Gw Gc
def signs : List Nat := [46, 97, 98, 99, 65, 45]
def spoT (t : List Nat) (a c k : Nat) : List Nat := if k = 0 then t.take a ++ [c] ++ t.drop a else if k = 1 then t.take a ++ [c] ++ t.drop (a + 1) else if k = 2 then t.take a ++ t.drop (a + 1) else t
def spoF (t : List Nat) (ns : List Int) : List Nat × List Int :=
  (spoT t ((nextF ns).1.fmod ((t.length : Int) + 1)).toNat (signs.getD ((nextF (nextF ns).2).1.fmod 6).toNat 0) ((nextF (nextF (nextF ns).2).2).1.fmod 4).toNat, (nextF (nextF (nextF ns).2).2).2)
theorem spo_len (t : List Nat) (ns : List Int) : (spoF t ns).1.length ≤ t.length + 1 := by
  unfold spoF spoT
  simp only []
  split
  · simp only [List.length_append, List.length_take, List.length_cons, List.length_nil, List.length_drop]; omega
  · split
    · simp only [List.length_append, List.length_take, List.length_cons, List.length_nil, List.length_drop]; omega
    · split
      · simp only [List.length_append, List.length_take, List.length_drop]; omega
      · omega
def f__law_spoilt : Fn := popFn 1 fun ns vs => match vs with
  | [.str t] => if t.length ≤ 100000 then some (.val (.str (spoF t ns).1), (spoF t ns).2) else none
  | _ => none
section
variable {Γ : List Fn} {G : List D}
theorem fin5s {a b : D} {ss : List S} {r : SR} {x : Option FRes} (h : evSs Γ G ss [.bor a, .val b, .no, .no, .no] = r) (hr : leave [.bor, .val] r = x) : runDef Γ G 5 [.bor, .val] ss [a, b] = x := by
  unfold runDef
  rw [if_pos (by rfl)]
  show leave _ (evSs Γ G ss [.bor a, .val b, .no, .no, .no]) = _
  rw [h, hr]
theorem sem__law_spoilt {f : Nat} (hf : Γ[f]? = some f__law_next) : ∀ ds r, f__law_spoilt.mf ds = some r → runDef Γ G N__law_spoilt f__law_spoilt.modes (ss__law_spoilt f) ds = some r := by
  refine popFn_sem fun ns vs r h => ?_
  split at h
  · rename_i t
    split at h
    · rename_i hl
      cases h
      unfold spoF
      obtain ⟨n1, e1⟩ : ∃ x, (nextF ns).1 = x := ⟨_, rfl⟩
      obtain ⟨ns1, e2⟩ : ∃ x, (nextF ns).2 = x := ⟨_, rfl⟩
      obtain ⟨n2, e3⟩ : ∃ x, (nextF ns1).1 = x := ⟨_, rfl⟩
      obtain ⟨ns2, e4⟩ : ∃ x, (nextF ns1).2 = x := ⟨_, rfl⟩
      obtain ⟨n3, e5⟩ : ∃ x, (nextF ns2).1 = x := ⟨_, rfl⟩
      obtain ⟨ns3, e6⟩ : ∃ x, (nextF ns2).2 = x := ⟨_, rfl⟩
      simp only [e1, e2, e3, e4, e5, e6]
      have r1 := fmod_range n1 (show (0 : Int) < (t.length : Int) + 1 by omega)
      have r3 := fmod_range n3 (show (0 : Int) < 4 by decide)
      obtain ⟨a, ha⟩ : ∃ a : Nat, n1.fmod ((t.length : Int) + 1) = (a : Int) := ⟨(n1.fmod ((t.length : Int) + 1)).toNat, by omega⟩
      have p1 := pickS signs n2 (m := 6) rfl (by decide)
      have p1' : atI [(46 : Nat), 97, 98, 99, 65, 45] (n2.fmod 6) = some (signs.getD (n2.fmod 6).toNat 0) := p1
      generalize signs.getD (n2.fmod 6).toNat 0 = c at *
      rw [ha, Int.toNat_natCast]
      have dl : divOk ((t.length : Int) + 1) = true := divOk_small (by omega) (by omega)
      have hm0 : ¬ (t.length : Int) + 1 = 0 := by omega
      have d6 : divOk 6 = true := by decide
      have d4 : divOk 4 = true := by decide
      have t1 := cut_take t a
      have t2 := cut_drop t a
      have t3 : Mini.cut t (some ((a : Int) + 1)) none = t.drop (a + 1) := by
        have := cut_drop t (a + 1)
        rwa [Int.natCast_add, Int.natCast_one] at this
      have ta : (t.take a).length ≤ t.length := by rw [List.length_take]; omega
      have tb : (t.drop (a + 1)).length ≤ t.length := by rw [List.length_drop]; omega
      have tc : (t.drop a).length ≤ t.length := by rw [List.length_drop]; omega
      have SZe : SZ = 16777216 := rfl
      have q1 : prim .add [.str (t.take a), .str [c]] = some (.val (.str (t.take a ++ [c]))) := by
        rw [prim2_add, if_pos]; simp only [List.length_cons, List.length_nil]; omega
      have q2 : prim .add [.str (t.take a ++ [c]), .str (t.drop a)] = some (.val (.str (t.take a ++ [c] ++ t.drop a))) := by
        rw [prim2_add, if_pos]; simp only [List.length_append, List.length_cons, List.length_nil]; omega
      have q3 : prim .add [.str (t.take a ++ [c]), .str (t.drop (a + 1))] = some (.val (.str (t.take a ++ [c] ++ t.drop (a + 1)))) := by
        rw [prim2_add, if_pos]; simp only [List.length_append, List.length_cons, List.length_nil]; omega
      have q4 : prim .add [.str (t.take a), .str (t.drop (a + 1))] = some (.val (.str (t.take a ++ t.drop (a + 1)))) := by
        rw [prim2_add, if_pos]; omega
      have hk : n3.fmod 4 = 0 ∨ n3.fmod 4 = 1 ∨ n3.fmod 4 = 2 ∨ n3.fmod 4 = 3 := by omega
      have m : f__law_spoilt.modes = [.bor, .val] := rfl
      unfold spoT
      generalize t.take a ++ [c] ++ t.drop (a + 1) = u1 at *
      generalize t.take a ++ [c] ++ t.drop a = u2 at *
      generalize t.take a ++ t.drop (a + 1) = u3 at *
      generalize t.take a ++ [c] = u4 at *
      generalize t.take a = u5 at *
      generalize t.drop (a + 1) = u6 at *
      generalize t.drop a = u7 at *
      rcases hk with hk | hk | hk | hk <;> rw [hk] <;>
      (refine fin5s (h := rfl) ?_
       simp -implicitDefEqProofs [leave, backs, ss__law_spoilt, at0, atS, ofOut_some, ofOut_none, rdOp_eq, rdS_val, rdS_own, rdS_bor, rdS_ro, rdS_st, vS_val, vS_own, mvS_val, mvS_own, evE_v, evE_mv, evE_k, evE_g, evE_pr, primR_some, evO_nil, evO_cons', evP_rd, evP_v, evP_mv, evP_k, evP_g, evP_pr, evP_chain, evP_and, evP_or, evP_not, evP_ite, evP_slc, evP_meth, evP_call, evP_mu, evP_comp, opds_nil, opds_cons, cons2_some, get_dv, get_sl, getS_own0, getS_own1, getS_bor0, getS_bor1, getS_ro0, getS_ro1, getS_st0, stays_nilR, stays_consR, stay_dv, stay_sl, stS_ro, stS_st, evE_chain, chainR_bl, evE_and, evE_or, evE_not, evE_ite, evE_truth_rd, evE_truth_v, evE_truth_mv, evE_truth_k, evE_truth_g, evE_truth_pr, evE_truth_chain, evE_truth_and, evE_truth_or, evE_truth_not, evE_truth_ite, evE_truth_slc, evE_truth_meth, evE_truth_call, evE_truth_mu, evE_truth_comp, truO_some, truB_some, truD_non, truD_bl, truD_int, truD_str, truD_lst, truD_tup, evE_slc', evB_none, evB_some, slcR_some, slcF_lst, slcF_str, evE_meth', methR_some, recv_index, recv_split, recv_join, methF_index, methF_split, methF_join, evE_call, evE_mu, gSl_own, gSl_bor, muS_lst, muR_eq, muV_lst, muT_some, okE_some, sSl_own, sSl_bor, muL_append, muL_extend, muL_pop, muL_reverse, evE_comp, evC_none, evC_some, evS_set, evS_par, valK_some, valsOf_nil, valsOf_cons, parPut_nil, parPut_cons, evS_aug, augS_val, augT_val, evS_ex, evS_ret, evS_retN, evS_if, evS_for, evS_whl', evS_brk, evS_cnt, evS_pass, evS_rai, evSs_nil, evSs_cons, forR_seq, forR_tup, forR_str, prim1_add, prim3_add, prim4_sub, prim5_mul, prim8_fdiv, prim9_mod, prim10_pow, prim11_neg, prim12_eq, prim13_ne, prim14_lt, prim15_le, prim16_gt, prim17_ge, prim18_lt, prim19_le, prim20_gt, prim21_ge, prim22_isin, prim23_notin, prim24_isin, prim25_isin, prim26_notin, prim27_notin, prim28_isN, prim29_notN, prim30_isB, prim31_notB, prim32_ix, prim33_ix, prim34_ix, prim35_tup, prim36_lst, prim37_len, prim38_len, prim39_len, prim40_abs, prim41_int, prim42_int, prim43_int, prim44_ord, prim45_str, prim_repr, prim47_list, prim48_list, prim49_sum, prim50_any, prim51_all, Pr.need, isEmpty_snoc, Res.bind_ok, Res.bind_bad, Res.bind_exc, SR.of_ok, SR.of_bad, SR.of_exc, SR.then_nx, SR.then_ret, SR.then_brk, SR.then_cnt, SR.then_exc, SR.then_bad, SR.ofO_some, SR.ofO_none, toV_ok, toB_ok, toI_ok, Out.d_val, Out.d_own, putOut_val, putOut_tup, put_nm', put_own', put_tup, putL_nil, putL_cons, free_no, free_val, free_own, free_ro, free_st, free_bor, free_err, rdS_err, evE_isi, isiS_err, evE_callx, pickK_some, evP_isi, evP_callx, evE_truth_isi, evE_truth_callx, evS_wipe, evS_tryc, tryK_exc, tryK_nx, tryK_ret, tryK_brk, tryK_cnt, evHs_cons, suK_some, suiteEnd_ret, suiteEnd_nx, dropE_some, dropS_eq, clear_nil, clear_no, clear_val, clear_own, clear_bor, clear_ro, clear_st, catchE_eq, wipeE_nil, wipeE_cons, put_tupL, evS_stx, stxK_some, setIx_eq, setS_own, setS_bor, popK_own, popK_bor, foOut_val, foOut_own, foOut_exc, recv_scount, recv_sfind, recv_sindex, recv_lcount, methF_scount, methF_sfind, methF_sindex, methF_lcount, prim_inR, evS_augx, augK_some, augG_some, augP_some, getIx_eq, gxS_own, gxS_bor, Option.bind_some, Option.bind_none, hf, call__law_next, e1, e2, e3, e4, e5, e6, dl, d6, d4, hm0, ha, p1', hk, t1, t2, t3, q1, q2, q3, q4, plain, deq_int])
    · cases h
  · cases h
theorem call__law_spoilt {t : List Nat} (h : t.length ≤ 100000) (i : Nat) (e : Ev) : callR (some f__law_spoilt) [.sl i, .dv (.str t)] e = popK (e.at i) (fun ns => (.val (.str (spoF t ns).1), (spoF t ns).2)) i e :=
  call_popFn (vs := [.str t]) rfl (fun ns => by simp only [h, if_true]) i e
end
end K10

set_option Elab.async false
set_option linter.all false
set_option maxRecDepth 100000
namespace K10
open Mini Gw Gc
theorem rok_of {d : D} (h : okI d) : rok d = true := by
  obtain ⟨h1, h2, h3⟩ := h
  have h4 : plain 60 d = true := by
    have key : ∀ (n : Nat), (∀ d, plain n d = true → plain (n + 1) d = true) ∧ (∀ ds, plainL n ds = true → plainL (n + 1) ds = true) := by
      intro n
      induction n with
      | zero =>
        have a : ∀ d, plain 0 d = true → plain 1 d = true := fun d hd => by cases d <;> first | rfl | (simp [plain] at hd)
        refine ⟨a, fun ds => ?_⟩
        induction ds with
        | nil => intro _; rfl
        | cons x xs ih => intro h; simp only [plainL, Bool.and_eq_true] at h ⊢; exact ⟨a x h.1, ih h.2⟩
      | succ n ih =>
        have a : ∀ d, plain (n + 1) d = true → plain (n + 2) d = true := fun d hd => by
          cases d <;> first
            | rfl
            | (simp [plain] at hd; done)
            | (exact ih.2 _ hd)
        refine ⟨a, fun ds => ?_⟩
        induction ds with
        | nil => intro _; rfl
        | cons x xs ih2 => intro h; simp only [plainL, Bool.and_eq_true] at h ⊢; exact ⟨a x h.1, ih2 h.2⟩
    exact (key 59).1 d h2
  unfold rok
  rw [h1, h4]
  exact decide_eq_true (by have : SZ = 16777216 := rfl; omega)
theorem kinds_ok (n : Int) : okKs (kindF n) = true ∧ isK (kindF n) = true := by
  have h : ∀ K ∈ kindsL, okKs K = true ∧ isK K = true := by decide +kernel
  exact h _ (kindF_mem n)
section
variable {Γ : List Fn} {G : List D} {f1 f2 f3 f4 f5 f6 f7 f8 f9 : Nat}
theorem law_turn (h5 : Γ[f5]? = some f__law_is_tree) (h6 : Γ[f6]? = some f__law_told) (h7 : Γ[f7]? = some f__law_letters) {K : List Int} {x : List Nat} {s0 s1 s3 s4 : Sl} (hK : okKs K = true) (iK : isK K = true) (hx : x.length ≤ 1000) :
    turnF Γ G (.nm 5) (bd_law_1 f1 f2 f3 f4 f5 f6 f7 f8 f9) (.str x) [s0, s1, .val (kD K), s3, s4, .no, .no, .no, .no] = .nx [s0, s1, .val (kD K), s3, s4, .no, .no, .no, .no] := by
  have kl := okKs_len hK
  have ok : okT K x = true := by
    unfold okT
    rw [Bool.and_eq_true]
    exact ⟨decide_eq_true (by omega), decide_eq_true (by omega)⟩
  have t1 := fun e => call__law_told (K := K) (t := x) (w := 1) (e := e) (by omega) ok
  have t2 := fun e => call__law_told (K := K) (t := x) (w := 2) (e := e) (by omega) ok
  have t3 := fun e => call__law_told (K := K) (t := x) (w := 3) (e := e) (by omega) ok
  have t4 := fun e => call__law_told (K := K) (t := x) (w := 4) (e := e) (by omega) ok
  have e1 : ((1 : Nat) : Int) = 1 := rfl
  have e2 : ((2 : Nat) : Int) = 2 := rfl
  have e3 : ((3 : Nat) : Int) = 3 := rfl
  have e4 : ((4 : Nat) : Int) = 4 := rfl
  rw [e1] at t1
  rw [e2] at t2
  rw [e3] at t3
  rw [e4] at t4
  have c5 : ∀ e, callR (some f__law_is_tree) [.dv (kD K), .dv (.str x)] e = .ok (.val (.bl (isT K x))) e := fun e => by
    have : f__law_is_tree.mf [kD K, .str x] = some ⟨.val (.bl (isT K x)), []⟩ := by
      simp only [f__law_is_tree, kD, intsD_map]
      rw [if_pos ⟨hK, by omega⟩]
    have q1 : f__law_is_tree.modes = [.val, .val] := rfl
    have q2 : f__law_is_tree.dflt = [] := rfl
    generalize kD K = l1 at *
    simp [callR, argsGet, argGet, apart, bors, lsl, putBack, foOut, q1, q2, this]
  have c7 := fun e => call__law_letters (t := x) (e := e) (by omega)
  have ll : ((natsD (letsF x)).length : Int) = sizF x := by rw [← lets_len]; simp [natsD]
  have small : ∀ i : Int, i.natAbs ≤ 1000 → rok (.int i) = true := fun i hi => rok_of ⟨by
    simp only [shows]
    exact decide_eq_true (log2_lt (by decide) (Nat.lt_of_le_of_lt hi (by decide +kernel))), rfl, by simp [rsz]⟩
  have r1 : rok (.int (sizF x)) = true := small _ (by
    unfold sizF
    have := List.count_le_length (a := 46) (l := x)
    omega)
  have r2 : rok (.int ((x.count 46 : Nat) : Int)) = true := small _ (by
    have := List.count_le_length (a := 46) (l := x)
    omega)
  have r3 : ∀ b, rok (.bl b) = true := fun b => rok_of (okI_bl b)
  have r4 : rok .non = true := rok_of okI_non
  have r5 : rok (.str [33, 116, 114, 101, 101]) = true := rok_of (okI_str (by simp))
  simp only [toldD, iK, if_true] at t1 t2 t3 t4
  have c3 := r3 true
  have c4 := r3 false
  generalize kD K = l1 at *
  generalize natsD (letsF x) = l2 at *
  generalize sizF x = z1 at *
  cases ht : isT K x <;> simp only [ht, sT, if_true, Bool.false_eq_true, if_false] at t1 t2 t3 t4 c5 <;>
  simp -implicitDefEqProofs [turnF, bd_law_1, at0, atS, ofOut_some, ofOut_none, rdOp_eq, rdS_val, rdS_own, rdS_bor, rdS_ro, rdS_st, vS_val, vS_own, mvS_val, mvS_own, evE_v, evE_mv, evE_k, evE_g, evE_pr, primR_some, evO_nil, evO_cons', evP_rd, evP_v, evP_mv, evP_k, evP_g, evP_pr, evP_chain, evP_and, evP_or, evP_not, evP_ite, evP_slc, evP_meth, evP_call, evP_mu, evP_comp, opds_nil, opds_cons, cons2_some, get_dv, get_sl, getS_own0, getS_own1, getS_bor0, getS_bor1, getS_ro0, getS_ro1, getS_st0, stays_nilR, stays_consR, stay_dv, stay_sl, stS_ro, stS_st, evE_chain, chainR_bl, evE_and, evE_or, evE_not, evE_ite, evE_truth_rd, evE_truth_v, evE_truth_mv, evE_truth_k, evE_truth_g, evE_truth_pr, evE_truth_chain, evE_truth_and, evE_truth_or, evE_truth_not, evE_truth_ite, evE_truth_slc, evE_truth_meth, evE_truth_call, evE_truth_mu, evE_truth_comp, truO_some, truB_some, truD_non, truD_bl, truD_int, truD_str, truD_lst, truD_tup, evE_slc', evB_none, evB_some, slcR_some, slcF_lst, slcF_str, evE_meth', methR_some, recv_index, recv_split, recv_join, methF_index, methF_split, methF_join, evE_call, evE_mu, gSl_own, gSl_bor, muS_lst, muR_eq, muV_lst, muT_some, okE_some, sSl_own, sSl_bor, muL_append, muL_extend, muL_pop, muL_reverse, evE_comp, evC_none, evC_some, evS_set, evS_par, valK_some, valsOf_nil, valsOf_cons, parPut_nil, parPut_cons, evS_aug, augS_val, augT_val, evS_ex, evS_ret, evS_retN, evS_if, evS_for, evS_whl', evS_brk, evS_cnt, evS_pass, evS_rai, evSs_nil, evSs_cons, forR_seq, forR_tup, forR_str, prim1_add, prim2_add, prim3_add, prim4_sub, prim5_mul, prim6_mul, prim7_mul, prim8_fdiv, prim9_mod, prim10_pow, prim11_neg, prim12_eq, prim13_ne, prim14_lt, prim15_le, prim16_gt, prim17_ge, prim18_lt, prim19_le, prim20_gt, prim21_ge, prim22_isin, prim23_notin, prim24_isin, prim25_isin, prim26_notin, prim27_notin, prim28_isN, prim29_notN, prim30_isB, prim31_notB, prim32_ix, prim33_ix, prim34_ix, prim35_tup, prim36_lst, prim37_len, prim38_len, prim39_len, prim40_abs, prim41_int, prim42_int, prim43_int, prim44_ord, prim45_str, prim_repr, prim47_list, prim48_list, prim49_sum, prim50_any, prim51_all, Pr.need, isEmpty_snoc, Res.bind_ok, Res.bind_bad, Res.bind_exc, SR.of_ok, SR.of_bad, SR.of_exc, SR.then_nx, SR.then_ret, SR.then_brk, SR.then_cnt, SR.then_exc, SR.then_bad, SR.ofO_some, SR.ofO_none, toV_ok, toB_ok, toI_ok, Out.d_val, Out.d_own, putOut_val, putOut_tup, put_nm', put_own', put_tup, putL_nil, putL_cons, free_no, free_val, free_own, free_ro, free_st, free_bor, free_err, rdS_err, evE_isi, isiS_err, evE_callx, pickK_some, evP_isi, evP_callx, evE_truth_isi, evE_truth_callx, evS_wipe, evS_tryc, tryK_exc, tryK_nx, tryK_ret, tryK_brk, tryK_cnt, evHs_cons, suK_some, suiteEnd_ret, suiteEnd_nx, dropE_some, dropS_eq, clear_nil, clear_no, clear_val, clear_own, clear_bor, clear_ro, clear_st, catchE_eq, wipeE_nil, wipeE_cons, put_tupL, evS_stx, stxK_some, setIx_eq, setS_own, setS_bor, popK_own, popK_bor, foOut_val, foOut_own, foOut_exc, recv_scount, recv_sfind, recv_sindex, recv_lcount, methF_scount, methF_sfind, methF_sindex, methF_lcount, prim_inR, evS_augx, augK_some, augG_some, augP_some, getIx_eq, gxS_own, gxS_bor, Option.bind_some, Option.bind_none, h5, h6, h7, t1, t2, t3, t4, c5, c7, ll, r1, r2, c3, c4, r4, r5, plain, deq_str]
theorem mulS (c n : Nat) (h : n ≤ 100) : prim .mul [.str [c], .int (n : Int)] = some (.val (.str (List.replicate n c))) := by
  have hr : (List.replicate n [c]).flatten = List.replicate n c := by simp
  have SZe : SZ = 16777216 := rfl
  rw [prim7_mul, if_pos, Int.toNat_natCast, hr]
  rw [Bool.and_eq_true, Bool.and_eq_true]
  refine ⟨⟨decide_eq_true (by omega), decide_eq_true (by omega)⟩, decide_eq_true ?_⟩
  show 1 * n ≤ _
  omega
theorem addS (u v : List Nat) (h : u.length + v.length ≤ 1000) : prim .add [.str u, .str v] = some (.val (.str (u ++ v))) := by
  have SZe : SZ = 16777216 := rfl
  rw [prim2_add, if_pos (by omega)]
def longL : List (List Nat) := [List.replicate 9 97 ++ List.replicate 10 46, List.replicate 10 97 ++ List.replicate 11 46, List.replicate 6 97 ++ List.replicate 13 46, List.replicate 7 97 ++ List.replicate 15 46, List.replicate 6 98 ++ List.replicate 13 46, []]
theorem tree_len {K : List Int} (hK : okKs K = true) (ns : List Int) : (treeF K 6 ns).1.length ≤ 100 := by
  unfold treeF
  have r := fmod_range (nextF ns).1 (show (0 : Int) < ((6 : Nat) : Int) + 1 by decide)
  have := (grows_ok hK ([46], (nextF ns).2) (by simp) ((nextF ns).1.fmod (((6 : Nat) : Int) + 1)).toNat).2
  have e : ([46] : List Nat).length = 1 := rfl
  simp only [e] at this
  omega
theorem part_a (h1 : Γ[f1]? = some f__law_draws) (h2 : Γ[f2]? = some f__law_kinds) (h3 : Γ[f3]? = some f__law_tree) {ns : List Int} (hl : ns.length ≤ 63) :
    ∃ (K : List Int) (t : List Nat) (L : List Int), okKs K = true ∧ isK K = true ∧ t.length ≤ 100 ∧
      evSs Γ G ((ss_law f1 f2 f3 f4 f5 f6 f7 f8 f9).take 6) (enter N_law [.st] [.lst (ns.map .int)]) = .nx [.st (.lst (ns.map .int)), .own (.lst (L.map .int)), .val (kD K), .val (.str t), .own (.lst (longL.map .str)), .no, .no, .no, .no] := by
  obtain ⟨L, hL⟩ : ∃ L, (drawsF ns).reverse = L := ⟨_, rfl⟩
  obtain ⟨K, hKe⟩ : ∃ K, kindF (nextF L).1 = K := ⟨_, rfl⟩
  obtain ⟨L1, hL1⟩ : ∃ L1, (nextF L).2 = L1 := ⟨_, rfl⟩
  have hK : okKs K = true ∧ isK K = true := by rw [← hKe]; exact kinds_ok _
  have c3 : ∀ i e, callR (some f__law_tree) [.sl i, .dv (kD K), .dv (.int 6)] e = popK (e.at i) (fun ns => (.val (.str (treeF K 6 ns).1), (treeF K 6 ns).2)) i e := fun i e => call__law_tree (m := 6) hK.1 (by omega) i e
  refine ⟨K, (treeF K 6 L1).1, (treeF K 6 L1).2, hK.1, hK.2, tree_len hK.1 _, ?_⟩
  have a9 : prim .mul [.str [97], .int 9] = some (.val (.str (List.replicate 9 97))) := mulS 97 9 (by omega)
  have a10 : prim .mul [.str [97], .int 10] = some (.val (.str (List.replicate 10 97))) := mulS 97 10 (by omega)
  have a6 : prim .mul [.str [97], .int 6] = some (.val (.str (List.replicate 6 97))) := mulS 97 6 (by omega)
  have a7 : prim .mul [.str [97], .int 7] = some (.val (.str (List.replicate 7 97))) := mulS 97 7 (by omega)
  have b6 : prim .mul [.str [98], .int 6] = some (.val (.str (List.replicate 6 98))) := mulS 98 6 (by omega)
  have d10 : prim .mul [.str [46], .int 10] = some (.val (.str (List.replicate 10 46))) := mulS 46 10 (by omega)
  have d11 : prim .mul [.str [46], .int 11] = some (.val (.str (List.replicate 11 46))) := mulS 46 11 (by omega)
  have d13 : prim .mul [.str [46], .int 13] = some (.val (.str (List.replicate 13 46))) := mulS 46 13 (by omega)
  have d15 : prim .mul [.str [46], .int 15] = some (.val (.str (List.replicate 15 46))) := mulS 46 15 (by omega)
  have q1 := addS (List.replicate 9 97) (List.replicate 10 46) (by simp)
  have q2 := addS (List.replicate 10 97) (List.replicate 11 46) (by simp)
  have q3 := addS (List.replicate 6 97) (List.replicate 13 46) (by simp)
  have q4 := addS (List.replicate 7 97) (List.replicate 15 46) (by simp)
  have q5 := addS (List.replicate 6 98) (List.replicate 13 46) (by simp)
  have s6 : 6 ≤ SZ := by decide
  simp only [longL, List.map_cons, List.map_nil]
  generalize htt : (treeF K 6 L1).1 = t at *
  generalize List.replicate 9 97 ++ List.replicate 10 46 = w1 at *
  generalize List.replicate 10 97 ++ List.replicate 11 46 = w2 at *
  generalize List.replicate 6 97 ++ List.replicate 13 46 = w3 at *
  generalize List.replicate 7 97 ++ List.replicate 15 46 = w4 at *
  generalize List.replicate 6 98 ++ List.replicate 13 46 = w5 at *
  generalize List.replicate 9 97 = y1 at *
  generalize List.replicate 10 97 = y2 at *
  generalize List.replicate 6 97 = y3 at *
  generalize List.replicate 7 97 = y4 at *
  generalize List.replicate 6 98 = y5 at *
  generalize List.replicate 10 46 = y6 at *
  generalize List.replicate 11 46 = y7 at *
  generalize List.replicate 13 46 = y8 at *
  generalize List.replicate 15 46 = y9 at *
  have ck : ∀ i e, callR (some f__law_kinds) [.sl i] e = popK (e.at i) (fun ns => (.val (kD (kindF (nextF ns).1)), (nextF ns).2)) i e := call__law_kinds
  generalize hkd : kD K = l1 at *
  simp -implicitDefEqProofs [-List.map_reverse, rev_ints, enter, N_law, ss_law, at0, atS, ofOut_some, ofOut_none, rdOp_eq, rdS_val, rdS_own, rdS_bor, rdS_ro, rdS_st, vS_val, vS_own, mvS_val, mvS_own, evE_v, evE_mv, evE_k, evE_g, evE_pr, primR_some, evO_nil, evO_cons', evP_rd, evP_v, evP_mv, evP_k, evP_g, evP_pr, evP_chain, evP_and, evP_or, evP_not, evP_ite, evP_slc, evP_meth, evP_call, evP_mu, evP_comp, opds_nil, opds_cons, cons2_some, get_dv, get_sl, getS_own0, getS_own1, getS_bor0, getS_bor1, getS_ro0, getS_ro1, getS_st0, stays_nilR, stays_consR, stay_dv, stay_sl, stS_ro, stS_st, evE_chain, chainR_bl, evE_and, evE_or, evE_not, evE_ite, evE_truth_rd, evE_truth_v, evE_truth_mv, evE_truth_k, evE_truth_g, evE_truth_pr, evE_truth_chain, evE_truth_and, evE_truth_or, evE_truth_not, evE_truth_ite, evE_truth_slc, evE_truth_meth, evE_truth_call, evE_truth_mu, evE_truth_comp, truO_some, truB_some, truD_non, truD_bl, truD_int, truD_str, truD_lst, truD_tup, evE_slc', evB_none, evB_some, slcR_some, slcF_lst, slcF_str, evE_meth', methR_some, recv_index, recv_split, recv_join, methF_index, methF_split, methF_join, evE_call, evE_mu, gSl_own, gSl_bor, muS_lst, muR_eq, muV_lst, muT_some, okE_some, sSl_own, sSl_bor, muL_append, muL_extend, muL_pop, muL_reverse, evE_comp, evC_none, evC_some, evS_set, evS_par, valK_some, valsOf_nil, valsOf_cons, parPut_nil, parPut_cons, evS_aug, augS_val, augT_val, evS_ex, evS_ret, evS_retN, evS_if, evS_for, evS_whl', evS_brk, evS_cnt, evS_pass, evS_rai, evSs_nil, evSs_cons, forR_seq, forR_tup, forR_str, prim1_add, prim3_add, prim4_sub, prim5_mul, prim8_fdiv, prim9_mod, prim10_pow, prim11_neg, prim12_eq, prim13_ne, prim14_lt, prim15_le, prim16_gt, prim17_ge, prim18_lt, prim19_le, prim20_gt, prim21_ge, prim22_isin, prim23_notin, prim24_isin, prim25_isin, prim26_notin, prim27_notin, prim28_isN, prim29_notN, prim30_isB, prim31_notB, prim32_ix, prim33_ix, prim34_ix, prim35_tup, prim36_lst, prim37_len, prim38_len, prim39_len, prim40_abs, prim41_int, prim42_int, prim43_int, prim44_ord, prim45_str, prim_repr, prim47_list, prim48_list, prim49_sum, prim50_any, prim51_all, Pr.need, isEmpty_snoc, Res.bind_ok, Res.bind_bad, Res.bind_exc, SR.of_ok, SR.of_bad, SR.of_exc, SR.then_nx, SR.then_ret, SR.then_brk, SR.then_cnt, SR.then_exc, SR.then_bad, SR.ofO_some, SR.ofO_none, toV_ok, toB_ok, toI_ok, Out.d_val, Out.d_own, putOut_val, putOut_tup, put_nm', put_own', put_tup, putL_nil, putL_cons, free_no, free_val, free_own, free_ro, free_st, free_bor, free_err, rdS_err, evE_isi, isiS_err, evE_callx, pickK_some, evP_isi, evP_callx, evE_truth_isi, evE_truth_callx, evS_wipe, evS_tryc, tryK_exc, tryK_nx, tryK_ret, tryK_brk, tryK_cnt, evHs_cons, suK_some, suiteEnd_ret, suiteEnd_nx, dropE_some, dropS_eq, clear_nil, clear_no, clear_val, clear_own, clear_bor, clear_ro, clear_st, catchE_eq, wipeE_nil, wipeE_cons, put_tupL, evS_stx, stxK_some, setIx_eq, setS_own, setS_bor, popK_own, popK_bor, foOut_val, foOut_own, foOut_exc, recv_scount, recv_sfind, recv_sindex, recv_lcount, methF_scount, methF_sfind, methF_sindex, methF_lcount, prim_inR, evS_augx, augK_some, augG_some, augP_some, getIx_eq, gxS_own, gxS_bor, Option.bind_some, Option.bind_none, h1, h2, h3, call__law_draws, drK_st, hl, hL, ck, hKe, hL1, hkd, c3, htt, a9, a10, a6, a7, b6, d10, d11, d13, d15, q1, q2, q3, q4, q5, s6]
theorem for_same {α : Type} {body : D → Ev → SR} (f : α → D) (e : Ev) : ∀ xs : List α, (∀ x ∈ xs, body (f x) e = .nx e) → forRun body (xs.map f) e = .nx e
  | [], _ => rfl
  | x :: xs, h => by
    rw [List.map_cons, forRun, h x List.mem_cons_self]
    exact for_same f e xs fun y hy => h y (List.mem_cons_of_mem _ hy)
theorem part_b (h4 : Γ[f4]? = some f__law_spoilt) (h5 : Γ[f5]? = some f__law_is_tree) (h6 : Γ[f6]? = some f__law_told) (h7 : Γ[f7]? = some f__law_letters) {K : List Int} {t : List Nat} {L : List Int} {s0 : Sl} (hK : okKs K = true) (iK : isK K = true) (ht : t.length ≤ 100) :
    ∃ L' : List Int, evSs Γ G (((ss_law f1 f2 f3 f4 f5 f6 f7 f8 f9).drop 6).take 1) [s0, .own (.lst (L.map .int)), .val (kD K), .val (.str t), .own (.lst (longL.map .str)), .no, .no, .no, .no] = .nx [s0, .own (.lst (L'.map .int)), .val (kD K), .val (.str t), .own (.lst (longL.map .str)), .no, .no, .no, .no] := by
  have l1 := spo_len t L
  obtain ⟨u1, hu1⟩ : ∃ u, (spoF t L).1 = u := ⟨_, rfl⟩
  obtain ⟨L1, hL1⟩ : ∃ u, (spoF t L).2 = u := ⟨_, rfl⟩
  have l2 := spo_len t L1
  obtain ⟨u2, hu2⟩ : ∃ u, (spoF t L1).1 = u := ⟨_, rfl⟩
  obtain ⟨L2, hL2⟩ : ∃ u, (spoF t L1).2 = u := ⟨_, rfl⟩
  have l3 := spo_len u2 L2
  obtain ⟨u3, hu3⟩ : ∃ u, (spoF u2 L2).1 = u := ⟨_, rfl⟩
  obtain ⟨L3, hL3⟩ : ∃ u, (spoF u2 L2).2 = u := ⟨_, rfl⟩
  rw [hu1] at l1
  rw [hu2] at l2
  rw [hu3] at l3
  refine ⟨L3, ?_⟩
  have c1 := fun i e => call__law_spoilt (t := t) (by omega) i e
  have c2 := fun i e => call__law_spoilt (t := u2) (by omega) i e
  have s3 : 3 ≤ SZ := by decide
  have s9 : 9 ≤ SZ := by decide
  have key := for_same (body := turnF Γ G (.nm 5) (bd_law_1 f1 f2 f3 f4 f5 f6 f7 f8 f9)) D.str [s0, .own (.lst (L3.map .int)), .val (kD K), .val (.str t), .own (.lst (longL.map .str)), .no, .no, .no, .no] (t :: u1 :: u3 :: longL) (fun x hx => by
    refine law_turn h5 h6 h7 hK iK ?_
    have hlong : ∀ y ∈ longL, y.length ≤ 1000 := by decide
    simp only [List.mem_cons] at hx
    rcases hx with rfl | rfl | rfl | hx
    · omega
    · omega
    · omega
    · exact hlong x hx)
  have hll : (longL.map D.str).length = 6 := rfl
  have it : items .seq [.lst (D.str t :: D.str u1 :: D.str u3 :: longL.map .str)] = some ((t :: u1 :: u3 :: longL).map .str) := rfl
  generalize (t :: u1 :: u3 :: longL).map D.str = l9 at *
  generalize longL.map D.str = l8 at *
  generalize kD K = l7 at *
  simp -implicitDefEqProofs [-forR_seq, -List.map_map, ss_law, at0, atS, ofOut_some, ofOut_none, rdOp_eq, rdS_val, rdS_own, rdS_bor, rdS_ro, rdS_st, vS_val, vS_own, mvS_val, mvS_own, evE_v, evE_mv, evE_k, evE_g, evE_pr, primR_some, evO_nil, evO_cons', evP_rd, evP_v, evP_mv, evP_k, evP_g, evP_pr, evP_chain, evP_and, evP_or, evP_not, evP_ite, evP_slc, evP_meth, evP_call, evP_mu, evP_comp, opds_nil, opds_cons, cons2_some, get_dv, get_sl, getS_own0, getS_own1, getS_bor0, getS_bor1, getS_ro0, getS_ro1, getS_st0, stays_nilR, stays_consR, stay_dv, stay_sl, stS_ro, stS_st, evE_chain, chainR_bl, evE_and, evE_or, evE_not, evE_ite, evE_truth_rd, evE_truth_v, evE_truth_mv, evE_truth_k, evE_truth_g, evE_truth_pr, evE_truth_chain, evE_truth_and, evE_truth_or, evE_truth_not, evE_truth_ite, evE_truth_slc, evE_truth_meth, evE_truth_call, evE_truth_mu, evE_truth_comp, truO_some, truB_some, truD_non, truD_bl, truD_int, truD_str, truD_lst, truD_tup, evE_slc', evB_none, evB_some, slcR_some, slcF_lst, slcF_str, evE_meth', methR_some, recv_index, recv_split, recv_join, methF_index, methF_split, methF_join, evE_call, evE_mu, gSl_own, gSl_bor, muS_lst, muR_eq, muV_lst, muT_some, okE_some, sSl_own, sSl_bor, muL_append, muL_extend, muL_pop, muL_reverse, evE_comp, evC_none, evC_some, evS_set, evS_par, valK_some, valsOf_nil, valsOf_cons, parPut_nil, parPut_cons, evS_aug, augS_val, augT_val, evS_ex, evS_ret, evS_retN, evS_if, evS_for, evS_whl', evS_brk, evS_cnt, evS_pass, evS_rai, evSs_nil, evSs_cons, forR_seq, forR_tup, forR_str, prim1_add, prim2_add, prim3_add, prim4_sub, prim5_mul, prim6_mul, prim7_mul, prim8_fdiv, prim9_mod, prim10_pow, prim11_neg, prim12_eq, prim13_ne, prim14_lt, prim15_le, prim16_gt, prim17_ge, prim18_lt, prim19_le, prim20_gt, prim21_ge, prim22_isin, prim23_notin, prim24_isin, prim25_isin, prim26_notin, prim27_notin, prim28_isN, prim29_notN, prim30_isB, prim31_notB, prim32_ix, prim33_ix, prim34_ix, prim35_tup, prim36_lst, prim37_len, prim38_len, prim39_len, prim40_abs, prim41_int, prim42_int, prim43_int, prim44_ord, prim45_str, prim_repr, prim47_list, prim48_list, prim49_sum, prim50_any, prim51_all, Pr.need, isEmpty_snoc, Res.bind_ok, Res.bind_bad, Res.bind_exc, SR.of_ok, SR.of_bad, SR.of_exc, SR.then_nx, SR.then_ret, SR.then_brk, SR.then_cnt, SR.then_exc, SR.then_bad, SR.ofO_some, SR.ofO_none, toV_ok, toB_ok, toI_ok, Out.d_val, Out.d_own, putOut_val, putOut_tup, put_nm', put_own', put_tup, putL_nil, putL_cons, free_no, free_val, free_own, free_ro, free_st, free_bor, free_err, rdS_err, evE_isi, isiS_err, evE_callx, pickK_some, evP_isi, evP_callx, evE_truth_isi, evE_truth_callx, evS_wipe, evS_tryc, tryK_exc, tryK_nx, tryK_ret, tryK_brk, tryK_cnt, evHs_cons, suK_some, suiteEnd_ret, suiteEnd_nx, dropE_some, dropS_eq, clear_nil, clear_no, clear_val, clear_own, clear_bor, clear_ro, clear_st, catchE_eq, wipeE_nil, wipeE_cons, put_tupL, evS_stx, stxK_some, setIx_eq, setS_own, setS_bor, popK_own, popK_bor, foOut_val, foOut_own, foOut_exc, recv_scount, recv_sfind, recv_sindex, recv_lcount, methF_scount, methF_sfind, methF_sindex, methF_lcount, prim_inR, evS_augx, augK_some, augG_some, augP_some, getIx_eq, gxS_own, gxS_bor, Option.bind_some, Option.bind_none, h4, c1, c2, hu1, hL1, hu2, hL2, hu3, hL3, s3, s9, hll, forR_some _ _ _ _ it, key]
def wrongL : List (List Int) := [[], [1], [2, 4], [2, 2, 2, 2], [0], [-2], [2, 3, 1]]
theorem part_c (h6 : Γ[f6]? = some f__law_told) (h8 : Γ[f8]? = some f_is_kinds) (h9 : Γ[f9]? = some f__law_next) {K : List Int} {t : List Nat} {L : List Int} {s0 s4 : Sl} (hK : okKs K = true) (iK : isK K = true) (ht : t.length ≤ 100) :
    ∃ e, evSs Γ G ((ss_law f1 f2 f3 f4 f5 f6 f7 f8 f9).drop 7) [s0, .own (.lst (L.map .int)), .val (kD K), .val (.str t), s4, .no, .no, .no, .no] = .ret (.val (.bl true)) e := by
  have kl := okKs_len hK
  have ok : okT K t = true := by
    unfold okT
    rw [Bool.and_eq_true]
    exact ⟨decide_eq_true (by omega), decide_eq_true (by omega)⟩
  have c1 := fun e => call_is_kinds (K := K) (e := e) (by omega)
  have c2 : ∀ e, callR (some f__law_told) [.dv (.int 0), .dv (kD K), .dv (.str t)] e = .ok (.val (toldD K t 0)) e := fun e => call__law_told (w := 0) (by omega) ok
  simp only [toldD, iK, if_true] at c2
  rw [iK] at c1
  obtain ⟨n1, e1⟩ : ∃ x, (nextF L).1 = x := ⟨_, rfl⟩
  obtain ⟨L1, e2⟩ : ∃ x, (nextF L).2 = x := ⟨_, rfl⟩
  have p1 := pickM kD wrongL n1 (m := 7) rfl (by decide) []
  obtain ⟨W, hW⟩ : ∃ W, wrongL.getD (n1.fmod 7).toNat [] = W := ⟨_, rfl⟩
  rw [hW] at p1
  have mem : W ∈ wrongL := by
    have r := fmod_range n1 (show (0 : Int) < 7 by decide)
    have hl : (n1.fmod 7).toNat < wrongL.length := by show _ < 7; omega
    rw [← hW, List.getD_eq_getElem?_getD, List.getElem?_eq_getElem hl]
    exact List.getElem_mem hl
  have iW : isK W = false ∧ W.length ≤ 1000 := by
    have : ∀ W ∈ wrongL, isK W = false ∧ W.length ≤ 1000 := by decide +kernel
    exact this W mem
  have okW : okT W [63] = true := by
    unfold okT
    rw [Bool.and_eq_true]
    exact ⟨decide_eq_true iW.2, by decide⟩
  have c3 := fun e => call_is_kinds (K := W) (e := e) iW.2
  rw [iW.1] at c3
  have tW : ∀ w, toldD W [63] w = .str sK := fun w => by unfold toldD; rw [iW.1]; rfl
  have c4 := compX (own := [8]) (pat := .nm 8) (it := .rng1) (Γ := Γ) (G := G) (elt := evE Γ G (.pr .eq [(.call f6 [(.v 8), (.v 7), (.k (.str [63]))]), (.k (.str [33, 107, 105, 110, 100, 115]))])) (ds := [.int 5]) (fun (i : Nat) => .int (i : Int)) (fun i => .bl true)
    (fun i => [s0, .own (.lst (L1.map .int)), .val (kD K), .val (.str t), s4, .no, .no, .val (kD W), .val (.int (i : Int))]) (xs := List.range 5) (E := [s0, .own (.lst (L1.map .int)), .val (kD K), .val (.str t), s4, .no, .no, .val (kD W), .no]) (show items .rng1 [.int 5] = _ from rng1_of (m := 5) (by omega)) (by decide) rfl
    (fun i => rfl) (fun i _ => rfl) (fun i hi => by
      have c := fun e => call__law_told (K := W) (t := [63]) (w := i) (e := e) (List.mem_range.mp hi) okW
      simp only [tW, sK] at c
      refine ⟨.val (.bl true), ?_, rfl⟩
      generalize kD W = l1 at *
      generalize kD K = l2 at *
      simp -implicitDefEqProofs [at0, atS, ofOut_some, ofOut_none, rdOp_eq, rdS_val, rdS_own, rdS_bor, rdS_ro, rdS_st, vS_val, vS_own, mvS_val, mvS_own, evE_v, evE_mv, evE_k, evE_g, evE_pr, primR_some, evO_nil, evO_cons', evP_rd, evP_v, evP_mv, evP_k, evP_g, evP_pr, evP_chain, evP_and, evP_or, evP_not, evP_ite, evP_slc, evP_meth, evP_call, evP_mu, evP_comp, opds_nil, opds_cons, cons2_some, get_dv, get_sl, getS_own0, getS_own1, getS_bor0, getS_bor1, getS_ro0, getS_ro1, getS_st0, stays_nilR, stays_consR, stay_dv, stay_sl, stS_ro, stS_st, evE_chain, chainR_bl, evE_and, evE_or, evE_not, evE_ite, evE_truth_rd, evE_truth_v, evE_truth_mv, evE_truth_k, evE_truth_g, evE_truth_pr, evE_truth_chain, evE_truth_and, evE_truth_or, evE_truth_not, evE_truth_ite, evE_truth_slc, evE_truth_meth, evE_truth_call, evE_truth_mu, evE_truth_comp, truO_some, truB_some, truD_non, truD_bl, truD_int, truD_str, truD_lst, truD_tup, evE_slc', evB_none, evB_some, slcR_some, slcF_lst, slcF_str, evE_meth', methR_some, recv_index, recv_split, recv_join, methF_index, methF_split, methF_join, evE_call, evE_mu, gSl_own, gSl_bor, muS_lst, muR_eq, muV_lst, muT_some, okE_some, sSl_own, sSl_bor, muL_append, muL_extend, muL_pop, muL_reverse, evE_comp, evC_none, evC_some, evS_set, evS_par, valK_some, valsOf_nil, valsOf_cons, parPut_nil, parPut_cons, evS_aug, augS_val, augT_val, evS_ex, evS_ret, evS_retN, evS_if, evS_for, evS_whl', evS_brk, evS_cnt, evS_pass, evS_rai, evSs_nil, evSs_cons, forR_seq, forR_tup, forR_str, prim1_add, prim2_add, prim3_add, prim4_sub, prim5_mul, prim6_mul, prim7_mul, prim8_fdiv, prim9_mod, prim10_pow, prim11_neg, prim12_eq, prim13_ne, prim14_lt, prim15_le, prim16_gt, prim17_ge, prim18_lt, prim19_le, prim20_gt, prim21_ge, prim22_isin, prim23_notin, prim24_isin, prim25_isin, prim26_notin, prim27_notin, prim28_isN, prim29_notN, prim30_isB, prim31_notB, prim32_ix, prim33_ix, prim34_ix, prim35_tup, prim36_lst, prim37_len, prim38_len, prim39_len, prim40_abs, prim41_int, prim42_int, prim43_int, prim44_ord, prim45_str, prim_repr, prim47_list, prim48_list, prim49_sum, prim50_any, prim51_all, Pr.need, isEmpty_snoc, Res.bind_ok, Res.bind_bad, Res.bind_exc, SR.of_ok, SR.of_bad, SR.of_exc, SR.then_nx, SR.then_ret, SR.then_brk, SR.then_cnt, SR.then_exc, SR.then_bad, SR.ofO_some, SR.ofO_none, toV_ok, toB_ok, toI_ok, Out.d_val, Out.d_own, putOut_val, putOut_tup, put_nm', put_own', put_tup, putL_nil, putL_cons, free_no, free_val, free_own, free_ro, free_st, free_bor, free_err, rdS_err, evE_isi, isiS_err, evE_callx, pickK_some, evP_isi, evP_callx, evE_truth_isi, evE_truth_callx, evS_wipe, evS_tryc, tryK_exc, tryK_nx, tryK_ret, tryK_brk, tryK_cnt, evHs_cons, suK_some, suiteEnd_ret, suiteEnd_nx, dropE_some, dropS_eq, clear_nil, clear_no, clear_val, clear_own, clear_bor, clear_ro, clear_st, catchE_eq, wipeE_nil, wipeE_cons, put_tupL, evS_stx, stxK_some, setIx_eq, setS_own, setS_bor, popK_own, popK_bor, foOut_val, foOut_own, foOut_exc, recv_scount, recv_sfind, recv_sindex, recv_lcount, methF_scount, methF_sfind, methF_sindex, methF_lcount, prim_inR, evS_augx, augK_some, augG_some, augP_some, getIx_eq, gxS_own, gxS_bor, Option.bind_some, Option.bind_none, h6, c, plain, deq_str])
  have e5 : ((List.range 5).map fun (_ : Nat) => D.bl true) = [true, true, true, true, true].map .bl := rfl
  rw [e5] at c4
  have pa : prim .all [.lst ([true, true, true, true, true].map .bl)] = some (.val (.bl true)) := prim51_all [true, true, true, true, true]
  generalize [true, true, true, true, true].map D.bl = l0 at *
  have s0' : 0 ≤ SZ := by decide
  have s1 : 1 ≤ SZ := by decide
  have s2 : 2 ≤ SZ := by decide
  have s3 : 3 ≤ SZ := by decide
  have s4' : 4 ≤ SZ := by decide
  have s7 : 7 ≤ SZ := by decide
  have d7 : divOk 7 = true := by decide
  simp only [wrongL, List.map_cons, List.map_nil] at p1
  have kd : ∀ l : List Int, kD l = .tup (l.map .int) := fun _ => rfl
  generalize hkW : kD W = lW at *
  generalize hkK : kD K = lK at *
  simp only [kd, List.map_cons, List.map_nil] at p1
  refine ⟨[s0, .own (.lst (L1.map .int)), .val lK, .val (.str t), s4, .no, .no, .val lW, .no], ?_⟩
  simp -implicitDefEqProofs [ss_law, at0, atS, ofOut_some, ofOut_none, rdOp_eq, rdS_val, rdS_own, rdS_bor, rdS_ro, rdS_st, vS_val, vS_own, mvS_val, mvS_own, evE_v, evE_mv, evE_k, evE_g, evE_pr, primR_some, evO_nil, evO_cons', evP_rd, evP_v, evP_mv, evP_k, evP_g, evP_pr, evP_chain, evP_and, evP_or, evP_not, evP_ite, evP_slc, evP_meth, evP_call, evP_mu, evP_comp, opds_nil, opds_cons, cons2_some, get_dv, get_sl, getS_own0, getS_own1, getS_bor0, getS_bor1, getS_ro0, getS_ro1, getS_st0, stays_nilR, stays_consR, stay_dv, stay_sl, stS_ro, stS_st, evE_chain, chainR_bl, evE_and, evE_or, evE_not, evE_ite, evE_truth_rd, evE_truth_v, evE_truth_mv, evE_truth_k, evE_truth_g, evE_truth_pr, evE_truth_chain, evE_truth_and, evE_truth_or, evE_truth_not, evE_truth_ite, evE_truth_slc, evE_truth_meth, evE_truth_call, evE_truth_mu, evE_truth_comp, truO_some, truB_some, truD_non, truD_bl, truD_int, truD_str, truD_lst, truD_tup, evE_slc', evB_none, evB_some, slcR_some, slcF_lst, slcF_str, evE_meth', methR_some, recv_index, recv_split, recv_join, methF_index, methF_split, methF_join, evE_call, evE_mu, gSl_own, gSl_bor, muS_lst, muR_eq, muV_lst, muT_some, okE_some, sSl_own, sSl_bor, muL_append, muL_extend, muL_pop, muL_reverse, evE_comp, evC_none, evC_some, evS_set, evS_par, valK_some, valsOf_nil, valsOf_cons, parPut_nil, parPut_cons, evS_aug, augS_val, augT_val, evS_ex, evS_ret, evS_retN, evS_if, evS_for, evS_whl', evS_brk, evS_cnt, evS_pass, evS_rai, evSs_nil, evSs_cons, forR_seq, forR_tup, forR_str, prim1_add, prim2_add, prim3_add, prim4_sub, prim5_mul, prim6_mul, prim7_mul, prim8_fdiv, prim9_mod, prim10_pow, prim11_neg, prim12_eq, prim13_ne, prim14_lt, prim15_le, prim16_gt, prim17_ge, prim18_lt, prim19_le, prim20_gt, prim21_ge, prim22_isin, prim23_notin, prim24_isin, prim25_isin, prim26_notin, prim27_notin, prim28_isN, prim29_notN, prim30_isB, prim31_notB, prim32_ix, prim33_ix, prim34_ix, prim35_tup, prim36_lst, prim37_len, prim38_len, prim39_len, prim40_abs, prim41_int, prim42_int, prim43_int, prim44_ord, prim45_str, prim_repr, prim47_list, prim48_list, prim49_sum, prim50_any, prim51_all, Pr.need, isEmpty_snoc, Res.bind_ok, Res.bind_bad, Res.bind_exc, SR.of_ok, SR.of_bad, SR.of_exc, SR.then_nx, SR.then_ret, SR.then_brk, SR.then_cnt, SR.then_exc, SR.then_bad, SR.ofO_some, SR.ofO_none, toV_ok, toB_ok, toI_ok, Out.d_val, Out.d_own, putOut_val, putOut_tup, put_nm', put_own', put_tup, putL_nil, putL_cons, free_no, free_val, free_own, free_ro, free_st, free_bor, free_err, rdS_err, evE_isi, isiS_err, evE_callx, pickK_some, evP_isi, evP_callx, evE_truth_isi, evE_truth_callx, evS_wipe, evS_tryc, tryK_exc, tryK_nx, tryK_ret, tryK_brk, tryK_cnt, evHs_cons, suK_some, suiteEnd_ret, suiteEnd_nx, dropE_some, dropS_eq, clear_nil, clear_no, clear_val, clear_own, clear_bor, clear_ro, clear_st, catchE_eq, wipeE_nil, wipeE_cons, put_tupL, evS_stx, stxK_some, setIx_eq, setS_own, setS_bor, popK_own, popK_bor, foOut_val, foOut_own, foOut_exc, recv_scount, recv_sfind, recv_sindex, recv_lcount, methF_scount, methF_sfind, methF_sindex, methF_lcount, prim_inR, evS_augx, augK_some, augG_some, augP_some, getIx_eq, gxS_own, gxS_bor, Option.bind_some, Option.bind_none, h6, h8, h9, c1, c2, c3, c4, pa, call__law_next, e1, e2, p1, s0', s1, s2, s3, s4', s7, d7, isNon]
theorem sem_law (h1 : Γ[f1]? = some f__law_draws) (h2 : Γ[f2]? = some f__law_kinds) (h3 : Γ[f3]? = some f__law_tree) (h4 : Γ[f4]? = some f__law_spoilt) (h5 : Γ[f5]? = some f__law_is_tree) (h6 : Γ[f6]? = some f__law_told) (h7 : Γ[f7]? = some f__law_letters) (h8 : Γ[f8]? = some f_is_kinds) (h9 : Γ[f9]? = some f__law_next) :
    ∀ ds r, lawFn.mf ds = some r → runDef Γ G N_law lawFn.modes (ss_law f1 f2 f3 f4 f5 f6 f7 f8 f9) ds = some r := by
  refine law_sem fun ns hl => ?_
  obtain ⟨K, t, L, hK, iK, ht, hA⟩ := part_a (Γ := Γ) (G := G) (f1 := f1) (f2 := f2) (f3 := f3) (f4 := f4) (f5 := f5) (f6 := f6) (f7 := f7) (f8 := f8) (f9 := f9) h1 h2 h3 (ns := ns) hl
  rw [run_two 6 hA]
  obtain ⟨L', hB⟩ := part_b (Γ := Γ) (G := G) (f1 := f1) (f2 := f2) (f3 := f3) (f4 := f4) (f5 := f5) (f6 := f6) (f7 := f7) (f8 := f8) (f9 := f9) h4 h5 h6 h7 (L := L) (s0 := .st (.lst (ns.map .int))) hK iK ht
  rw [run_two 1 hB, List.drop_drop]
  exact part_c (f1 := f1) (f2 := f2) (f3 := f3) (f4 := f4) (f5 := f5) (f7 := f7) h6 h8 h9 hK iK ht
end
end K10

set_option Elab.async false
set_option linter.all false
set_option maxRecDepth 100000
namespace K10
open PySem PySem.Spec PyProof.Rows L2 Mini
def top (i : Nat) : Stmt := PySem.Challenge.pw_graftworth_k10_kinds_and_trees.main.body.getD i (.Pass ⟨0, 0, 0, 0⟩)
def fns : List Str := ["is_kinds", "check_kinds", "is_allowed", "end_of", "size_of", "is_tree", "check_tree", "size", "width", "_law_number", "_law_draws", "_law_next", "_law_kinds", "_law_dots", "_law_letters", "_law_grown", "_law_tree", "_law_end", "_law_kind", "_law_told", "_law_spoilt", "_law_is_tree", "law"]
def gls : List Str := ["LETTERS", "OPEN", "MOST_LETTERS", "MOST_OPEN"]
def clss : List Str := ["GraftError", "NotKinds", "NotTree", "BadNumber", "NoAnswer", "TooLarge"]
def subT : List (List Nat) := [[0], [0, 1], [0, 2], [0, 3], [0, 4], [0, 5]]
def subR (n m : Nat) : Bool := (subT.getD n []).contains m
def hots : List Nat := [18]
def GL : List D := [.str [97, 98, 99], .str [46], .int 9, .int 14]
def Nm_is_kinds : List Str := ["kinds", "kind"]
def ck_is_kinds : Ck := ⟨Nm_is_kinds, fns, gls, 0, clss, subR, false, hots⟩
theorem chk_is_kinds : chkSs ck_is_kinds (L2.defScope (top 12)) (Gw.ss_is_kinds 0) (L2.defBody (top 12)) = true := by decide +kernel
theorem sc_is_kinds : L2.FnScope Nm_is_kinds ["kinds"] (L2.defScope (top 12)) := ⟨rfl, rfl, rfl, by decide +kernel, rfl, by decide +kernel, by decide +kernel⟩
def Nm_check_kinds : List Str := ["kinds"]
def ck_check_kinds : Ck := ⟨Nm_check_kinds, fns, gls, 1, clss, subR, false, hots⟩
theorem chk_check_kinds : chkSs ck_check_kinds (L2.defScope (top 13)) (Gw.ss_check_kinds 1 0) (L2.defBody (top 13)) = true := by decide +kernel
theorem sc_check_kinds : L2.FnScope Nm_check_kinds ["kinds"] (L2.defScope (top 13)) := ⟨rfl, rfl, rfl, by decide +kernel, rfl, by decide +kernel, by decide +kernel⟩
def Nm_is_allowed : List Str := ["size", "width"]
def ck_is_allowed : Ck := ⟨Nm_is_allowed, fns, gls, 2, clss, subR, false, hots⟩
theorem chk_is_allowed : chkSs ck_is_allowed (L2.defScope (top 14)) (Gw.ss_is_allowed 3 2) (L2.defBody (top 14)) = true := by decide +kernel
theorem sc_is_allowed : L2.FnScope Nm_is_allowed ["size", "width"] (L2.defScope (top 14)) := ⟨rfl, rfl, rfl, by decide +kernel, rfl, by decide +kernel, by decide +kernel⟩
def Nm_end_of : List Str := ["kinds", "tree", "begin", "wanted", "index", "sign"]
def ck_end_of : Ck := ⟨Nm_end_of, fns, gls, 3, clss, subR, false, hots⟩
theorem chk_end_of : chkSs ck_end_of (L2.defScope (top 15)) (Gw.ss_end_of 0 1) (L2.defBody (top 15)) = true := by decide +kernel
theorem sc_end_of : L2.FnScope Nm_end_of ["kinds", "tree", "begin"] (L2.defScope (top 15)) := ⟨rfl, rfl, rfl, by decide +kernel, rfl, by decide +kernel, by decide +kernel⟩
def Nm_size_of : List Str := ["tree"]
def ck_size_of : Ck := ⟨Nm_size_of, fns, gls, 4, clss, subR, false, hots⟩
theorem chk_size_of : chkSs ck_size_of (L2.defScope (top 16)) (Gw.ss_size_of 1) (L2.defBody (top 16)) = true := by decide +kernel
theorem sc_size_of : L2.FnScope Nm_size_of ["tree"] (L2.defScope (top 16)) := ⟨rfl, rfl, rfl, by decide +kernel, rfl, by decide +kernel, by decide +kernel⟩
def Nm_is_tree : List Str := ["kinds", "tree"]
def ck_is_tree : Ck := ⟨Nm_is_tree, fns, gls, 5, clss, subR, false, hots⟩
theorem chk_is_tree : chkSs ck_is_tree (L2.defScope (top 17)) (Gw.ss_is_tree 1 2 4 1 3) (L2.defBody (top 17)) = true := by decide +kernel
theorem sc_is_tree : L2.FnScope Nm_is_tree ["kinds", "tree"] (L2.defScope (top 17)) := ⟨rfl, rfl, rfl, by decide +kernel, rfl, by decide +kernel, by decide +kernel⟩
def Nm_check_tree : List Str := ["kinds", "tree"]
def ck_check_tree : Ck := ⟨Nm_check_tree, fns, gls, 6, clss, subR, false, hots⟩
theorem chk_check_tree : chkSs ck_check_tree (L2.defScope (top 18)) (Gw.ss_check_tree 2 5) (L2.defBody (top 18)) = true := by decide +kernel
theorem sc_check_tree : L2.FnScope Nm_check_tree ["kinds", "tree"] (L2.defScope (top 18)) := ⟨rfl, rfl, rfl, by decide +kernel, rfl, by decide +kernel, by decide +kernel⟩
def Nm_size : List Str := ["kinds", "tree"]
def ck_size : Ck := ⟨Nm_size, fns, gls, 7, clss, subR, false, hots⟩
theorem chk_size : chkSs ck_size (L2.defScope (top 19)) (Gw.ss_size 6 4) (L2.defBody (top 19)) = true := by decide +kernel
theorem sc_size : L2.FnScope Nm_size ["kinds", "tree"] (L2.defScope (top 19)) := ⟨rfl, rfl, rfl, by decide +kernel, rfl, by decide +kernel, by decide +kernel⟩
def Nm_width : List Str := ["kinds", "tree"]
def ck_width : Ck := ⟨Nm_width, fns, gls, 8, clss, subR, false, hots⟩
theorem chk_width : chkSs ck_width (L2.defScope (top 20)) (Gw.ss_width 6 1) (L2.defBody (top 20)) = true := by decide +kernel
theorem sc_width : L2.FnScope Nm_width ["kinds", "tree"] (L2.defScope (top 20)) := ⟨rfl, rfl, rfl, by decide +kernel, rfl, by decide +kernel, by decide +kernel⟩
def Nm__law_number : List Str := ["_law_cell"]
def ck__law_number : Ck := ⟨Nm__law_number, fns, gls, 9, clss, subR, false, hots⟩
theorem chk__law_number : chkSs ck__law_number (L2.defScope (top 22)) (Gc.ss__law_number ) (L2.defBody (top 22)) = true := by decide +kernel
theorem sc__law_number : L2.FnScope Nm__law_number ["_law_cell"] (L2.defScope (top 22)) := ⟨rfl, rfl, rfl, by decide +kernel, rfl, by decide +kernel, by decide +kernel⟩
def Nm__law_draws : List Str := ["_law_script", "_law_draws_here", "_law_cell", "_law_rest", "_law_k", "_law_once", "_law_twice"]
def ck__law_draws : Ck := ⟨Nm__law_draws, fns, gls, 10, clss, subR, false, hots⟩
theorem chk__law_draws : chkSs ck__law_draws (L2.defScope (top 23)) (Gc.ss__law_draws 9) (L2.defBody (top 23)) = true := by decide +kernel
theorem sc__law_draws : L2.FnScope Nm__law_draws ["_law_script"] (L2.defScope (top 23)) := ⟨rfl, rfl, rfl, by decide +kernel, rfl, by decide +kernel, by decide +kernel⟩
def Nm__law_next : List Str := ["_law_draws_here"]
def ck__law_next : Ck := ⟨Nm__law_next, fns, gls, 11, clss, subR, false, hots⟩
theorem chk__law_next : chkSs ck__law_next (L2.defScope (top 24)) (Gc.ss__law_next ) (L2.defBody (top 24)) = true := by decide +kernel
theorem sc__law_next : L2.FnScope Nm__law_next ["_law_draws_here"] (L2.defScope (top 24)) := ⟨rfl, rfl, rfl, by decide +kernel, rfl, by decide +kernel, by decide +kernel⟩
def Nm__law_kinds : List Str := ["_law_draws_here"]
def ck__law_kinds : Ck := ⟨Nm__law_kinds, fns, gls, 12, clss, subR, false, hots⟩
theorem chk__law_kinds : chkSs ck__law_kinds (L2.defScope (top 25)) (K10.ss__law_kinds 11) (L2.defBody (top 25)) = true := by decide +kernel
theorem sc__law_kinds : L2.FnScope Nm__law_kinds ["_law_draws_here"] (L2.defScope (top 25)) := ⟨rfl, rfl, rfl, by decide +kernel, rfl, by decide +kernel, by decide +kernel⟩
def Nm__law_dots : List Str := ["_law_tree_here", "_law_at"]
def ck__law_dots : Ck := ⟨Nm__law_dots, fns, gls, 13, clss, subR, false, hots⟩
theorem chk__law_dots : chkSs ck__law_dots (L2.defScope (top 26)) (K10.ss__law_dots ) (L2.defBody (top 26)) = true := by decide +kernel
theorem sc__law_dots : L2.FnScope Nm__law_dots ["_law_tree_here"] (L2.defScope (top 26)) := ⟨rfl, rfl, rfl, by decide +kernel, rfl, by decide +kernel, by decide +kernel⟩
def Nm__law_letters : List Str := ["_law_tree_here", "_law_at"]
def ck__law_letters : Ck := ⟨Nm__law_letters, fns, gls, 14, clss, subR, false, hots⟩
theorem chk__law_letters : chkSs ck__law_letters (L2.defScope (top 27)) (K10.ss__law_letters ) (L2.defBody (top 27)) = true := by decide +kernel
theorem sc__law_letters : L2.FnScope Nm__law_letters ["_law_tree_here"] (L2.defScope (top 27)) := ⟨rfl, rfl, rfl, by decide +kernel, rfl, by decide +kernel, by decide +kernel⟩
def Nm__law_grown : List Str := ["_law_draws_here", "_law_kinds_here", "_law_count", "_law_tree_here", "_law_j", "_law_dots_here", "_law_at", "_law_letter"]
def ck__law_grown : Ck := ⟨Nm__law_grown, fns, gls, 15, clss, subR, false, hots⟩
theorem chk__law_grown : chkSs ck__law_grown (L2.defScope (top 28)) (K10.ss__law_grown 13 11) (L2.defBody (top 28)) = true := by decide +kernel
theorem sc__law_grown : L2.FnScope Nm__law_grown ["_law_draws_here", "_law_kinds_here", "_law_count"] (L2.defScope (top 28)) := ⟨rfl, rfl, rfl, by decide +kernel, rfl, by decide +kernel, by decide +kernel⟩
def Nm__law_tree : List Str := ["_law_draws_here", "_law_kinds_here", "_law_most"]
def ck__law_tree : Ck := ⟨Nm__law_tree, fns, gls, 16, clss, subR, false, hots⟩
theorem chk__law_tree : chkSs ck__law_tree (L2.defScope (top 29)) (K10.ss__law_tree 15 11) (L2.defBody (top 29)) = true := by decide +kernel
theorem sc__law_tree : L2.FnScope Nm__law_tree ["_law_draws_here", "_law_kinds_here", "_law_most"] (L2.defScope (top 29)) := ⟨rfl, rfl, rfl, by decide +kernel, rfl, by decide +kernel, by decide +kernel⟩
def Nm__law_end : List Str := ["_law_kinds_here", "_law_tree_here", "_law_begin", "_law_wanted", "_law_index"]
def ck__law_end : Ck := ⟨Nm__law_end, fns, gls, 17, clss, subR, false, hots⟩
theorem chk__law_end : chkSs ck__law_end (L2.defScope (top 30)) (K10.ss__law_end ) (L2.defBody (top 30)) = true := by decide +kernel
theorem sc__law_end : L2.FnScope Nm__law_end ["_law_kinds_here", "_law_tree_here", "_law_begin"] (L2.defScope (top 30)) := ⟨rfl, rfl, rfl, by decide +kernel, rfl, by decide +kernel, by decide +kernel⟩
def Nm__law_kind : List Str := ["_law_error", "_law_kinds_here"]
def ck__law_kind : Ck := ⟨Nm__law_kind, fns, gls, 18, clss, subR, true, hots⟩
theorem chk__law_kind : chkSs ck__law_kind (L2.defScope (top 31)) (K10.ss__law_kind 1 [1] 2 [2] 3 [3] 5 [5] 4 [4] 0 [0, 1, 2, 3, 4, 5]) (L2.defBody (top 31)) = true := by decide +kernel
theorem sc__law_kind : L2.FnScope Nm__law_kind ["_law_error"] (L2.defScope (top 31)) := ⟨rfl, rfl, rfl, by decide +kernel, rfl, by decide +kernel, by decide +kernel⟩
def Nm__law_told : List Str := ["_law_way", "_law_kinds_here", "_law_tree_here", "_law_error"]
def ck__law_told : Ck := ⟨Nm__law_told, fns, gls, 19, clss, subR, false, hots⟩
theorem chk__law_told : chkSs ck__law_told (L2.defScope (top 32)) (K10.ss__law_told 1 5 6 7 8 [0, 1, 2, 3, 4, 5] 18) (L2.defBody (top 32)) = true := by decide +kernel
theorem sc__law_told : L2.FnScope Nm__law_told ["_law_way", "_law_kinds_here", "_law_tree_here"] (L2.defScope (top 32)) := ⟨rfl, rfl, rfl, by decide +kernel, rfl, by decide +kernel, by decide +kernel⟩
def Nm__law_spoilt : List Str := ["_law_draws_here", "_law_tree_here", "_law_at", "_law_sign", "_law_kind_here"]
def ck__law_spoilt : Ck := ⟨Nm__law_spoilt, fns, gls, 20, clss, subR, false, hots⟩
theorem chk__law_spoilt : chkSs ck__law_spoilt (L2.defScope (top 33)) (K10.ss__law_spoilt 11) (L2.defBody (top 33)) = true := by decide +kernel
theorem sc__law_spoilt : L2.FnScope Nm__law_spoilt ["_law_draws_here", "_law_tree_here"] (L2.defScope (top 33)) := ⟨rfl, rfl, rfl, by decide +kernel, rfl, by decide +kernel, by decide +kernel⟩
def Nm__law_is_tree : List Str := ["_law_kinds_here", "_law_tree_here"]
def ck__law_is_tree : Ck := ⟨Nm__law_is_tree, fns, gls, 21, clss, subR, false, hots⟩
theorem chk__law_is_tree : chkSs ck__law_is_tree (L2.defScope (top 34)) (K10.ss__law_is_tree 14 17) (L2.defBody (top 34)) = true := by decide +kernel
theorem sc__law_is_tree : L2.FnScope Nm__law_is_tree ["_law_kinds_here", "_law_tree_here"] (L2.defScope (top 34)) := ⟨rfl, rfl, rfl, by decide +kernel, rfl, by decide +kernel, by decide +kernel⟩
def Nm_law : List Str := ["_law_script", "_law_draws_here", "_law_kinds_here", "_law_tree_here", "_law_long", "_law_text", "_law_due", "_law_wrong", "_law_way"]
def ck_law : Ck := ⟨Nm_law, fns, gls, 22, clss, subR, false, hots⟩
theorem chk_law : chkSs ck_law (L2.defScope (top 35)) (K10.ss_law 10 12 16 20 21 19 14 0 11) (L2.defBody (top 35)) = true := by decide +kernel
theorem sc_law : L2.FnScope Nm_law ["_law_script"] (L2.defScope (top 35)) := ⟨rfl, rfl, rfl, by decide +kernel, rfl, by decide +kernel, by decide +kernel⟩
def ΓA : List Fn := [Gw.f_is_kinds, Gw.f_check_kinds 1, Gw.f_is_allowed, Gw.f_end_of, Gw.f_size_of, Gw.f_is_tree 1, Gw.f_check_tree 1 2, Gw.f_size 1 2, Gw.f_width 1 2, Gc.f__law_number, Gc.f__law_draws, Gc.f__law_next, K10.f__law_kinds, K10.f__law_dots, K10.f__law_letters, K10.f__law_grown, K10.f__law_tree, K10.f__law_end, K10.f__law_kind [1] [2] [3] [5] [4] [0, 1, 2, 3, 4, 5], K10.f__law_told, K10.f__law_spoilt, K10.f__law_is_tree, Gc.lawFn]
theorem all_mk {l : PySem.W.OpenLaw} {w : World} {K : PySem.W.Frag} {h : Heap} {mg : Str → Option Value} {fa f0 f1 f2 f3 f4 f5 f6 f7 f8 f9 f10 f11 f12 f13 f14 f15 f16 f17 f18 f19 f20 f21 f22 C0 C1 C2 C3 C4 C5 : Addr} (X : K.In h) (G : h.Ns mainGlobals mg) (hfa : mg "law" = some (.ref fa))
    {od0 an0 od1 an1 od2 an2 od3 an3 od4 an4 od5 an5 od6 an6 od7 an7 od8 an8 od9 an9 od10 an10 od11 an11 od12 an12 od13 an13 od14 an14 od15 an15 od16 an16 od17 an17 od18 an18 od19 an19 od20 an20 od21 an21 od22 an22 : Option Addr} {sl0 sl1 sl2 sl3 sl4 sl5 sl6 sl7 sl8 sl9 sl10 sl11 sl12 sl13 sl14 sl15 sl16 sl17 sl18 sl19 sl20 sl21 sl22 : Array (Option Value)} {oc0 kV0 dc0 pm0 cd0 ct0 oc1 kV1 dc1 pm1 cd1 ct1 oc2 kV2 dc2 pm2 cd2 ct2 oc3 kV3 dc3 pm3 cd3 ct3 oc4 kV4 dc4 pm4 cd4 ct4 oc5 kV5 dc5 pm5 cd5 ct5 oc6 kV6 dc6 pm6 cd6 ct6 oc7 kV7 dc7 pm7 cd7 ct7 oc8 kV8 dc8 pm8 cd8 ct8 oc9 kV9 dc9 pm9 cd9 ct9 oc10 kV10 dc10 pm10 cd10 ct10 oc11 kV11 dc11 pm11 cd11 ct11 oc12 kV12 dc12 pm12 cd12 ct12 oc13 kV13 dc13 pm13 cd13 ct13 oc14 kV14 dc14 pm14 cd14 ct14 oc15 kV15 dc15 pm15 cd15 ct15 oc16 kV16 dc16 pm16 cd16 ct16 oc17 kV17 dc17 pm17 cd17 ct17 oc18 kV18 dc18 pm18 cd18 ct18 oc19 kV19 dc19 pm19 cd19 ct19 oc20 kV20 dc20 pm20 cd20 ct20 oc21 kV21 dc21 pm21 cd21 ct21 oc22 kV22 dc22 pm22 cd22 ct22 : Value}
    {tk0 : Tok}
    {tk1 : Tok}
    {tk2 : Tok}
    {tk3 : Tok}
    (a0 : PySem.W.nsIn K mainGlobals "is_kinds" = some (some (.ref f0)))
    (l0 : K.lookup f0 = some ⟨oc0, od0, .func (PySem.W.fnOf "is_kinds" "is_kinds" (L2.defArgs (top 12)) (L2.defBody (top 12)) (L2.defScope (top 12)) .none kV0 dc0 pm0 an0 cd0 ct0), sl0⟩)
    (c0 : PySem.W.codeIn K cd0 "is_kinds" = true)
    (k0 : PySem.W.keepIn K (.ref f0) = true)
    (a1 : PySem.W.nsIn K mainGlobals "check_kinds" = some (some (.ref f1)))
    (l1 : K.lookup f1 = some ⟨oc1, od1, .func (PySem.W.fnOf "check_kinds" "check_kinds" (L2.defArgs (top 13)) (L2.defBody (top 13)) (L2.defScope (top 13)) .none kV1 dc1 pm1 an1 cd1 ct1), sl1⟩)
    (c1 : PySem.W.codeIn K cd1 "check_kinds" = true)
    (k1 : PySem.W.keepIn K (.ref f1) = true)
    (a2 : PySem.W.nsIn K mainGlobals "is_allowed" = some (some (.ref f2)))
    (l2 : K.lookup f2 = some ⟨oc2, od2, .func (PySem.W.fnOf "is_allowed" "is_allowed" (L2.defArgs (top 14)) (L2.defBody (top 14)) (L2.defScope (top 14)) .none kV2 dc2 pm2 an2 cd2 ct2), sl2⟩)
    (c2 : PySem.W.codeIn K cd2 "is_allowed" = true)
    (k2 : PySem.W.keepIn K (.ref f2) = true)
    (a3 : PySem.W.nsIn K mainGlobals "end_of" = some (some (.ref f3)))
    (l3 : K.lookup f3 = some ⟨oc3, od3, .func (PySem.W.fnOf "end_of" "end_of" (L2.defArgs (top 15)) (L2.defBody (top 15)) (L2.defScope (top 15)) .none kV3 dc3 pm3 an3 cd3 ct3), sl3⟩)
    (c3 : PySem.W.codeIn K cd3 "end_of" = true)
    (k3 : PySem.W.keepIn K (.ref f3) = true)
    (a4 : PySem.W.nsIn K mainGlobals "size_of" = some (some (.ref f4)))
    (l4 : K.lookup f4 = some ⟨oc4, od4, .func (PySem.W.fnOf "size_of" "size_of" (L2.defArgs (top 16)) (L2.defBody (top 16)) (L2.defScope (top 16)) .none kV4 dc4 pm4 an4 cd4 ct4), sl4⟩)
    (c4 : PySem.W.codeIn K cd4 "size_of" = true)
    (k4 : PySem.W.keepIn K (.ref f4) = true)
    (a5 : PySem.W.nsIn K mainGlobals "is_tree" = some (some (.ref f5)))
    (l5 : K.lookup f5 = some ⟨oc5, od5, .func (PySem.W.fnOf "is_tree" "is_tree" (L2.defArgs (top 17)) (L2.defBody (top 17)) (L2.defScope (top 17)) .none kV5 dc5 pm5 an5 cd5 ct5), sl5⟩)
    (c5 : PySem.W.codeIn K cd5 "is_tree" = true)
    (k5 : PySem.W.keepIn K (.ref f5) = true)
    (a6 : PySem.W.nsIn K mainGlobals "check_tree" = some (some (.ref f6)))
    (l6 : K.lookup f6 = some ⟨oc6, od6, .func (PySem.W.fnOf "check_tree" "check_tree" (L2.defArgs (top 18)) (L2.defBody (top 18)) (L2.defScope (top 18)) .none kV6 dc6 pm6 an6 cd6 ct6), sl6⟩)
    (c6 : PySem.W.codeIn K cd6 "check_tree" = true)
    (k6 : PySem.W.keepIn K (.ref f6) = true)
    (a7 : PySem.W.nsIn K mainGlobals "size" = some (some (.ref f7)))
    (l7 : K.lookup f7 = some ⟨oc7, od7, .func (PySem.W.fnOf "size" "size" (L2.defArgs (top 19)) (L2.defBody (top 19)) (L2.defScope (top 19)) .none kV7 dc7 pm7 an7 cd7 ct7), sl7⟩)
    (c7 : PySem.W.codeIn K cd7 "size" = true)
    (k7 : PySem.W.keepIn K (.ref f7) = true)
    (a8 : PySem.W.nsIn K mainGlobals "width" = some (some (.ref f8)))
    (l8 : K.lookup f8 = some ⟨oc8, od8, .func (PySem.W.fnOf "width" "width" (L2.defArgs (top 20)) (L2.defBody (top 20)) (L2.defScope (top 20)) .none kV8 dc8 pm8 an8 cd8 ct8), sl8⟩)
    (c8 : PySem.W.codeIn K cd8 "width" = true)
    (k8 : PySem.W.keepIn K (.ref f8) = true)
    (a9 : PySem.W.nsIn K mainGlobals "_law_number" = some (some (.ref f9)))
    (l9 : K.lookup f9 = some ⟨oc9, od9, .func (PySem.W.fnOf "_law_number" "_law_number" (L2.defArgs (top 22)) (L2.defBody (top 22)) (L2.defScope (top 22)) .none kV9 dc9 pm9 an9 cd9 ct9), sl9⟩)
    (c9 : PySem.W.codeIn K cd9 "_law_number" = true)
    (k9 : PySem.W.keepIn K (.ref f9) = true)
    (a10 : PySem.W.nsIn K mainGlobals "_law_draws" = some (some (.ref f10)))
    (l10 : K.lookup f10 = some ⟨oc10, od10, .func (PySem.W.fnOf "_law_draws" "_law_draws" (L2.defArgs (top 23)) (L2.defBody (top 23)) (L2.defScope (top 23)) .none kV10 dc10 pm10 an10 cd10 ct10), sl10⟩)
    (c10 : PySem.W.codeIn K cd10 "_law_draws" = true)
    (k10 : PySem.W.keepIn K (.ref f10) = true)
    (a11 : PySem.W.nsIn K mainGlobals "_law_next" = some (some (.ref f11)))
    (l11 : K.lookup f11 = some ⟨oc11, od11, .func (PySem.W.fnOf "_law_next" "_law_next" (L2.defArgs (top 24)) (L2.defBody (top 24)) (L2.defScope (top 24)) .none kV11 dc11 pm11 an11 cd11 ct11), sl11⟩)
    (c11 : PySem.W.codeIn K cd11 "_law_next" = true)
    (k11 : PySem.W.keepIn K (.ref f11) = true)
    (a12 : PySem.W.nsIn K mainGlobals "_law_kinds" = some (some (.ref f12)))
    (l12 : K.lookup f12 = some ⟨oc12, od12, .func (PySem.W.fnOf "_law_kinds" "_law_kinds" (L2.defArgs (top 25)) (L2.defBody (top 25)) (L2.defScope (top 25)) .none kV12 dc12 pm12 an12 cd12 ct12), sl12⟩)
    (c12 : PySem.W.codeIn K cd12 "_law_kinds" = true)
    (k12 : PySem.W.keepIn K (.ref f12) = true)
    (a13 : PySem.W.nsIn K mainGlobals "_law_dots" = some (some (.ref f13)))
    (l13 : K.lookup f13 = some ⟨oc13, od13, .func (PySem.W.fnOf "_law_dots" "_law_dots" (L2.defArgs (top 26)) (L2.defBody (top 26)) (L2.defScope (top 26)) .none kV13 dc13 pm13 an13 cd13 ct13), sl13⟩)
    (c13 : PySem.W.codeIn K cd13 "_law_dots" = true)
    (k13 : PySem.W.keepIn K (.ref f13) = true)
    (a14 : PySem.W.nsIn K mainGlobals "_law_letters" = some (some (.ref f14)))
    (l14 : K.lookup f14 = some ⟨oc14, od14, .func (PySem.W.fnOf "_law_letters" "_law_letters" (L2.defArgs (top 27)) (L2.defBody (top 27)) (L2.defScope (top 27)) .none kV14 dc14 pm14 an14 cd14 ct14), sl14⟩)
    (c14 : PySem.W.codeIn K cd14 "_law_letters" = true)
    (k14 : PySem.W.keepIn K (.ref f14) = true)
    (a15 : PySem.W.nsIn K mainGlobals "_law_grown" = some (some (.ref f15)))
    (l15 : K.lookup f15 = some ⟨oc15, od15, .func (PySem.W.fnOf "_law_grown" "_law_grown" (L2.defArgs (top 28)) (L2.defBody (top 28)) (L2.defScope (top 28)) .none kV15 dc15 pm15 an15 cd15 ct15), sl15⟩)
    (c15 : PySem.W.codeIn K cd15 "_law_grown" = true)
    (k15 : PySem.W.keepIn K (.ref f15) = true)
    (a16 : PySem.W.nsIn K mainGlobals "_law_tree" = some (some (.ref f16)))
    (l16 : K.lookup f16 = some ⟨oc16, od16, .func (PySem.W.fnOf "_law_tree" "_law_tree" (L2.defArgs (top 29)) (L2.defBody (top 29)) (L2.defScope (top 29)) .none kV16 dc16 pm16 an16 cd16 ct16), sl16⟩)
    (c16 : PySem.W.codeIn K cd16 "_law_tree" = true)
    (k16 : PySem.W.keepIn K (.ref f16) = true)
    (a17 : PySem.W.nsIn K mainGlobals "_law_end" = some (some (.ref f17)))
    (l17 : K.lookup f17 = some ⟨oc17, od17, .func (PySem.W.fnOf "_law_end" "_law_end" (L2.defArgs (top 30)) (L2.defBody (top 30)) (L2.defScope (top 30)) .none kV17 dc17 pm17 an17 cd17 ct17), sl17⟩)
    (c17 : PySem.W.codeIn K cd17 "_law_end" = true)
    (k17 : PySem.W.keepIn K (.ref f17) = true)
    (a18 : PySem.W.nsIn K mainGlobals "_law_kind" = some (some (.ref f18)))
    (l18 : K.lookup f18 = some ⟨oc18, od18, .func (PySem.W.fnOf "_law_kind" "_law_kind" (L2.defArgs (top 31)) (L2.defBody (top 31)) (L2.defScope (top 31)) .none kV18 dc18 pm18 an18 cd18 ct18), sl18⟩)
    (c18 : PySem.W.codeIn K cd18 "_law_kind" = true)
    (k18 : PySem.W.keepIn K (.ref f18) = true)
    (a19 : PySem.W.nsIn K mainGlobals "_law_told" = some (some (.ref f19)))
    (l19 : K.lookup f19 = some ⟨oc19, od19, .func (PySem.W.fnOf "_law_told" "_law_told" (L2.defArgs (top 32)) (L2.defBody (top 32)) (L2.defScope (top 32)) .none kV19 dc19 pm19 an19 cd19 ct19), sl19⟩)
    (c19 : PySem.W.codeIn K cd19 "_law_told" = true)
    (k19 : PySem.W.keepIn K (.ref f19) = true)
    (a20 : PySem.W.nsIn K mainGlobals "_law_spoilt" = some (some (.ref f20)))
    (l20 : K.lookup f20 = some ⟨oc20, od20, .func (PySem.W.fnOf "_law_spoilt" "_law_spoilt" (L2.defArgs (top 33)) (L2.defBody (top 33)) (L2.defScope (top 33)) .none kV20 dc20 pm20 an20 cd20 ct20), sl20⟩)
    (c20 : PySem.W.codeIn K cd20 "_law_spoilt" = true)
    (k20 : PySem.W.keepIn K (.ref f20) = true)
    (a21 : PySem.W.nsIn K mainGlobals "_law_is_tree" = some (some (.ref f21)))
    (l21 : K.lookup f21 = some ⟨oc21, od21, .func (PySem.W.fnOf "_law_is_tree" "_law_is_tree" (L2.defArgs (top 34)) (L2.defBody (top 34)) (L2.defScope (top 34)) .none kV21 dc21 pm21 an21 cd21 ct21), sl21⟩)
    (c21 : PySem.W.codeIn K cd21 "_law_is_tree" = true)
    (k21 : PySem.W.keepIn K (.ref f21) = true)
    (a22 : PySem.W.nsIn K mainGlobals "law" = some (some (.ref f22)))
    (l22 : K.lookup f22 = some ⟨oc22, od22, .func (PySem.W.fnOf "law" "law" (L2.defArgs (top 35)) (L2.defBody (top 35)) (L2.defScope (top 35)) .none kV22 dc22 pm22 an22 cd22 ct22), sl22⟩)
    (c22 : PySem.W.codeIn K cd22 "law" = true)
    (k22 : PySem.W.keepIn K (.ref f22) = true)
    (yy0 : PySem.W.nsIn K mainGlobals "LETTERS" = some (some (.str "abc" tk0)))
    (yy1 : PySem.W.nsIn K mainGlobals "OPEN" = some (some (.str "." tk1)))
    (yy2 : PySem.W.nsIn K mainGlobals "MOST_LETTERS" = some (some (.int 9 tk2)))
    (yy3 : PySem.W.nsIn K mainGlobals "MOST_OPEN" = some (some (.int 14 tk3)))
    (z0 : PySem.W.nsIn K mainGlobals "len" = some none)
    (z1 : PySem.W.nsIn K mainGlobals "abs" = some none)
    (z2 : PySem.W.nsIn K mainGlobals "int" = some none)
    (z3 : PySem.W.nsIn K mainGlobals "str" = some none)
    (z4 : PySem.W.nsIn K mainGlobals "list" = some none)
    (z5 : PySem.W.nsIn K mainGlobals "sum" = some none)
    (z6 : PySem.W.nsIn K mainGlobals "any" = some none)
    (z7 : PySem.W.nsIn K mainGlobals "all" = some none)
    (z8 : PySem.W.nsIn K mainGlobals "range" = some none)
    (z9 : PySem.W.nsIn K mainGlobals "enumerate" = some none)
    (z10 : PySem.W.nsIn K mainGlobals "zip" = some none)
    (z11 : PySem.W.nsIn K mainGlobals "sorted" = some none)
    (z12 : PySem.W.nsIn K mainGlobals "max" = some none)
    (z13 : PySem.W.nsIn K mainGlobals "min" = some none)
    (z14 : PySem.W.nsIn K mainGlobals "tuple" = some none)
    (z15 : PySem.W.nsIn K mainGlobals "dict" = some none)
    (z16 : PySem.W.nsIn K mainGlobals "set" = some none)
    (z17 : PySem.W.nsIn K mainGlobals "repr" = some none)
    (z18 : PySem.W.nsIn K mainGlobals "isinstance" = some none)
    (z19 : PySem.W.nsIn K mainGlobals "bool" = some none)
    (z20 : PySem.W.nsIn K mainGlobals "ord" = some none)
    (xa0 : PySem.W.nsIn K mainGlobals "GraftError" = some (some (.ref C0)))
    (xg0 : PySem.W.findIn K (.ref C0) "__getattribute__" = some (some (.builtin "BaseException.__getattribute__")))
    (xk0 : PySem.W.findIn K (.ref C0) "__getattr__" = some none)
    (xs0 : PySem.W.subIn K (.ref C0) (.type "BaseException") = some true)
    (xd0 : PySem.W.hasDictIn K C0 = true)
    (xc0 : PySem.W.findIn K (.ref C0) "__class__" = some (some (.builtin "object.__class__")))
    (xm0 : PySem.W.mroIn K C0 (.type "object") = some true)
    (xx0 : PySem.W.excIn K C0 [.type "ValueError", .type "Exception", .type "BaseException", .type "object"] "ValueError.__new__" = true)
    (xp0 : PySem.W.keepIn K (.ref C0) = true)
    (xt0 : PySem.W.typeIn K (.ref C0) = some (.type "type"))
    (xi0 : PySem.W.isClsIn K C0 = true)
    (xa1 : PySem.W.nsIn K mainGlobals "NotKinds" = some (some (.ref C1)))
    (xg1 : PySem.W.findIn K (.ref C1) "__getattribute__" = some (some (.builtin "BaseException.__getattribute__")))
    (xk1 : PySem.W.findIn K (.ref C1) "__getattr__" = some none)
    (xs1 : PySem.W.subIn K (.ref C1) (.type "BaseException") = some true)
    (xd1 : PySem.W.hasDictIn K C1 = true)
    (xc1 : PySem.W.findIn K (.ref C1) "__class__" = some (some (.builtin "object.__class__")))
    (xm1 : PySem.W.mroIn K C1 (.type "object") = some true)
    (xx1 : PySem.W.excIn K C1 [.type "ValueError", .type "Exception", .type "BaseException", .type "object"] "ValueError.__new__" = true)
    (xp1 : PySem.W.keepIn K (.ref C1) = true)
    (xt1 : PySem.W.typeIn K (.ref C1) = some (.type "type"))
    (xi1 : PySem.W.isClsIn K C1 = true)
    (xa2 : PySem.W.nsIn K mainGlobals "NotTree" = some (some (.ref C2)))
    (xg2 : PySem.W.findIn K (.ref C2) "__getattribute__" = some (some (.builtin "BaseException.__getattribute__")))
    (xk2 : PySem.W.findIn K (.ref C2) "__getattr__" = some none)
    (xs2 : PySem.W.subIn K (.ref C2) (.type "BaseException") = some true)
    (xd2 : PySem.W.hasDictIn K C2 = true)
    (xc2 : PySem.W.findIn K (.ref C2) "__class__" = some (some (.builtin "object.__class__")))
    (xm2 : PySem.W.mroIn K C2 (.type "object") = some true)
    (xx2 : PySem.W.excIn K C2 [.type "ValueError", .type "Exception", .type "BaseException", .type "object"] "ValueError.__new__" = true)
    (xp2 : PySem.W.keepIn K (.ref C2) = true)
    (xt2 : PySem.W.typeIn K (.ref C2) = some (.type "type"))
    (xi2 : PySem.W.isClsIn K C2 = true)
    (xa3 : PySem.W.nsIn K mainGlobals "BadNumber" = some (some (.ref C3)))
    (xg3 : PySem.W.findIn K (.ref C3) "__getattribute__" = some (some (.builtin "BaseException.__getattribute__")))
    (xk3 : PySem.W.findIn K (.ref C3) "__getattr__" = some none)
    (xs3 : PySem.W.subIn K (.ref C3) (.type "BaseException") = some true)
    (xd3 : PySem.W.hasDictIn K C3 = true)
    (xc3 : PySem.W.findIn K (.ref C3) "__class__" = some (some (.builtin "object.__class__")))
    (xm3 : PySem.W.mroIn K C3 (.type "object") = some true)
    (xx3 : PySem.W.excIn K C3 [.type "ValueError", .type "Exception", .type "BaseException", .type "object"] "ValueError.__new__" = true)
    (xp3 : PySem.W.keepIn K (.ref C3) = true)
    (xt3 : PySem.W.typeIn K (.ref C3) = some (.type "type"))
    (xi3 : PySem.W.isClsIn K C3 = true)
    (xa4 : PySem.W.nsIn K mainGlobals "NoAnswer" = some (some (.ref C4)))
    (xg4 : PySem.W.findIn K (.ref C4) "__getattribute__" = some (some (.builtin "BaseException.__getattribute__")))
    (xk4 : PySem.W.findIn K (.ref C4) "__getattr__" = some none)
    (xs4 : PySem.W.subIn K (.ref C4) (.type "BaseException") = some true)
    (xd4 : PySem.W.hasDictIn K C4 = true)
    (xc4 : PySem.W.findIn K (.ref C4) "__class__" = some (some (.builtin "object.__class__")))
    (xm4 : PySem.W.mroIn K C4 (.type "object") = some true)
    (xx4 : PySem.W.excIn K C4 [.type "ValueError", .type "Exception", .type "BaseException", .type "object"] "ValueError.__new__" = true)
    (xp4 : PySem.W.keepIn K (.ref C4) = true)
    (xt4 : PySem.W.typeIn K (.ref C4) = some (.type "type"))
    (xi4 : PySem.W.isClsIn K C4 = true)
    (xa5 : PySem.W.nsIn K mainGlobals "TooLarge" = some (some (.ref C5)))
    (xg5 : PySem.W.findIn K (.ref C5) "__getattribute__" = some (some (.builtin "BaseException.__getattribute__")))
    (xk5 : PySem.W.findIn K (.ref C5) "__getattr__" = some none)
    (xs5 : PySem.W.subIn K (.ref C5) (.type "BaseException") = some true)
    (xd5 : PySem.W.hasDictIn K C5 = true)
    (xc5 : PySem.W.findIn K (.ref C5) "__class__" = some (some (.builtin "object.__class__")))
    (xm5 : PySem.W.mroIn K C5 (.type "object") = some true)
    (xx5 : PySem.W.excIn K C5 [.type "ValueError", .type "Exception", .type "BaseException", .type "object"] "ValueError.__new__" = true)
    (xp5 : PySem.W.keepIn K (.ref C5) = true)
    (xt5 : PySem.W.typeIn K (.ref C5) = some (.type "type"))
    (xi5 : PySem.W.isClsIn K C5 = true)
    (yn : PySem.W.specialIn K (.builtin "object.__class__") "__get__" = some (some (.builtin "getset_descriptor.__get__")))
    (yt : PySem.W.takesIn K (.builtin "object.__class__") = some true)
    (s0_0 : PySem.W.subIn K (.ref C0) (.ref C0) = some true)
    (s0_1 : PySem.W.subIn K (.ref C0) (.ref C1) = some false)
    (s0_2 : PySem.W.subIn K (.ref C0) (.ref C2) = some false)
    (s0_3 : PySem.W.subIn K (.ref C0) (.ref C3) = some false)
    (s0_4 : PySem.W.subIn K (.ref C0) (.ref C4) = some false)
    (s0_5 : PySem.W.subIn K (.ref C0) (.ref C5) = some false)
    (s1_0 : PySem.W.subIn K (.ref C1) (.ref C0) = some true)
    (s1_1 : PySem.W.subIn K (.ref C1) (.ref C1) = some true)
    (s1_2 : PySem.W.subIn K (.ref C1) (.ref C2) = some false)
    (s1_3 : PySem.W.subIn K (.ref C1) (.ref C3) = some false)
    (s1_4 : PySem.W.subIn K (.ref C1) (.ref C4) = some false)
    (s1_5 : PySem.W.subIn K (.ref C1) (.ref C5) = some false)
    (s2_0 : PySem.W.subIn K (.ref C2) (.ref C0) = some true)
    (s2_1 : PySem.W.subIn K (.ref C2) (.ref C1) = some false)
    (s2_2 : PySem.W.subIn K (.ref C2) (.ref C2) = some true)
    (s2_3 : PySem.W.subIn K (.ref C2) (.ref C3) = some false)
    (s2_4 : PySem.W.subIn K (.ref C2) (.ref C4) = some false)
    (s2_5 : PySem.W.subIn K (.ref C2) (.ref C5) = some false)
    (s3_0 : PySem.W.subIn K (.ref C3) (.ref C0) = some true)
    (s3_1 : PySem.W.subIn K (.ref C3) (.ref C1) = some false)
    (s3_2 : PySem.W.subIn K (.ref C3) (.ref C2) = some false)
    (s3_3 : PySem.W.subIn K (.ref C3) (.ref C3) = some true)
    (s3_4 : PySem.W.subIn K (.ref C3) (.ref C4) = some false)
    (s3_5 : PySem.W.subIn K (.ref C3) (.ref C5) = some false)
    (s4_0 : PySem.W.subIn K (.ref C4) (.ref C0) = some true)
    (s4_1 : PySem.W.subIn K (.ref C4) (.ref C1) = some false)
    (s4_2 : PySem.W.subIn K (.ref C4) (.ref C2) = some false)
    (s4_3 : PySem.W.subIn K (.ref C4) (.ref C3) = some false)
    (s4_4 : PySem.W.subIn K (.ref C4) (.ref C4) = some true)
    (s4_5 : PySem.W.subIn K (.ref C4) (.ref C5) = some false)
    (s5_0 : PySem.W.subIn K (.ref C5) (.ref C0) = some true)
    (s5_1 : PySem.W.subIn K (.ref C5) (.ref C1) = some false)
    (s5_2 : PySem.W.subIn K (.ref C5) (.ref C2) = some false)
    (s5_3 : PySem.W.subIn K (.ref C5) (.ref C3) = some false)
    (s5_4 : PySem.W.subIn K (.ref C5) (.ref C4) = some false)
    (s5_5 : PySem.W.subIn K (.ref C5) (.ref C5) = some true)
    : ∃ (cl : Cl) (fd : FuncData), (∀ (s : Shared) (v : Value), BindsTo s fd ⟨[v], []⟩ [("_law_script", v)]) ∧ ∀ base : Heap, K.In base → base.Ns mainGlobals mg → FnG l.prog w K mg base (L2N.CX l.prog w) 23 fa fd ["_law_script"] (spOf K cl Gc.lawFn) := by
  have e := hfa.symm.trans (PySem.W.mg_of X G a22)
  cases e
  have b0 := (fun_mk (st := top 12) l0 c0 k0).binds (ps := ["kinds"]) fun _ _ _ _ _ _ us hl => match us, hl with | [_], _ => rfl
  have b1 := (fun_mk (st := top 13) l1 c1 k1).binds (ps := ["kinds"]) fun _ _ _ _ _ _ us hl => match us, hl with | [_], _ => rfl
  have b2 := (fun_mk (st := top 14) l2 c2 k2).binds (ps := ["size", "width"]) fun _ _ _ _ _ _ us hl => match us, hl with | [_, _], _ => rfl
  have b3 := (fun_mk (st := top 15) l3 c3 k3).binds (ps := ["kinds", "tree", "begin"]) fun _ _ _ _ _ _ us hl => match us, hl with | [_, _, _], _ => rfl
  have b4 := (fun_mk (st := top 16) l4 c4 k4).binds (ps := ["tree"]) fun _ _ _ _ _ _ us hl => match us, hl with | [_], _ => rfl
  have b5 := (fun_mk (st := top 17) l5 c5 k5).binds (ps := ["kinds", "tree"]) fun _ _ _ _ _ _ us hl => match us, hl with | [_, _], _ => rfl
  have b6 := (fun_mk (st := top 18) l6 c6 k6).binds (ps := ["kinds", "tree"]) fun _ _ _ _ _ _ us hl => match us, hl with | [_, _], _ => rfl
  have b7 := (fun_mk (st := top 19) l7 c7 k7).binds (ps := ["kinds", "tree"]) fun _ _ _ _ _ _ us hl => match us, hl with | [_, _], _ => rfl
  have b8 := (fun_mk (st := top 20) l8 c8 k8).binds (ps := ["kinds", "tree"]) fun _ _ _ _ _ _ us hl => match us, hl with | [_, _], _ => rfl
  have b9 := (fun_mk (st := top 22) l9 c9 k9).binds (ps := ["_law_cell"]) fun _ _ _ _ _ _ us hl => match us, hl with | [_], _ => rfl
  have b10 := (fun_mk (st := top 23) l10 c10 k10).binds (ps := ["_law_script"]) fun _ _ _ _ _ _ us hl => match us, hl with | [_], _ => rfl
  have b11 := (fun_mk (st := top 24) l11 c11 k11).binds (ps := ["_law_draws_here"]) fun _ _ _ _ _ _ us hl => match us, hl with | [_], _ => rfl
  have b12 := (fun_mk (st := top 25) l12 c12 k12).binds (ps := ["_law_draws_here"]) fun _ _ _ _ _ _ us hl => match us, hl with | [_], _ => rfl
  have b13 := (fun_mk (st := top 26) l13 c13 k13).binds (ps := ["_law_tree_here"]) fun _ _ _ _ _ _ us hl => match us, hl with | [_], _ => rfl
  have b14 := (fun_mk (st := top 27) l14 c14 k14).binds (ps := ["_law_tree_here"]) fun _ _ _ _ _ _ us hl => match us, hl with | [_], _ => rfl
  have b15 := (fun_mk (st := top 28) l15 c15 k15).binds (ps := ["_law_draws_here", "_law_kinds_here", "_law_count"]) fun _ _ _ _ _ _ us hl => match us, hl with | [_, _, _], _ => rfl
  have b16 := (fun_mk (st := top 29) l16 c16 k16).binds (ps := ["_law_draws_here", "_law_kinds_here", "_law_most"]) fun _ _ _ _ _ _ us hl => match us, hl with | [_, _, _], _ => rfl
  have b17 := (fun_mk (st := top 30) l17 c17 k17).binds (ps := ["_law_kinds_here", "_law_tree_here", "_law_begin"]) fun _ _ _ _ _ _ us hl => match us, hl with | [_, _, _], _ => rfl
  have b18 := (fun_mk (st := top 31) l18 c18 k18).binds (ps := ["_law_error"]) fun _ _ _ _ _ _ us hl => match us, hl with | [_], _ => rfl
  have b19 := (fun_mk (st := top 32) l19 c19 k19).binds (ps := ["_law_way", "_law_kinds_here", "_law_tree_here"]) fun _ _ _ _ _ _ us hl => match us, hl with | [_, _, _], _ => rfl
  have b20 := (fun_mk (st := top 33) l20 c20 k20).binds (ps := ["_law_draws_here", "_law_tree_here"]) fun _ _ _ _ _ _ us hl => match us, hl with | [_, _], _ => rfl
  have b21 := (fun_mk (st := top 34) l21 c21 k21).binds (ps := ["_law_kinds_here", "_law_tree_here"]) fun _ _ _ _ _ _ us hl => match us, hl with | [_, _], _ => rfl
  have b22 := (fun_mk (st := top 35) l22 c22 k22).binds (ps := ["_law_script"]) fun _ _ _ _ _ _ us hl => match us, hl with | [_], _ => rfl
  have nob : ∀ b ∈ bnames, mg b = none := fun b hb => by
    simp only [bnames, List.mem_cons, List.not_mem_nil, or_false] at hb
    rcases hb with rfl | rfl | rfl | rfl | rfl | rfl | rfl | rfl | rfl | rfl | rfl | rfl | rfl | rfl | rfl | rfl | rfl | rfl | rfl | rfl | rfl
    · exact PySem.W.mg_none_of X G z0
    · exact PySem.W.mg_none_of X G z1
    · exact PySem.W.mg_none_of X G z2
    · exact PySem.W.mg_none_of X G z3
    · exact PySem.W.mg_none_of X G z4
    · exact PySem.W.mg_none_of X G z5
    · exact PySem.W.mg_none_of X G z6
    · exact PySem.W.mg_none_of X G z7
    · exact PySem.W.mg_none_of X G z8
    · exact PySem.W.mg_none_of X G z9
    · exact PySem.W.mg_none_of X G z10
    · exact PySem.W.mg_none_of X G z11
    · exact PySem.W.mg_none_of X G z12
    · exact PySem.W.mg_none_of X G z13
    · exact PySem.W.mg_none_of X G z14
    · exact PySem.W.mg_none_of X G z15
    · exact PySem.W.mg_none_of X G z16
    · exact PySem.W.mg_none_of X G z17
    · exact PySem.W.mg_none_of X G z18
    · exact PySem.W.mg_none_of X G z19
    · exact PySem.W.mg_none_of X G z20
  have glob : ∀ (j : Nat) x d, gls[j]? = some x → GL[j]? = some d → ∃ v u, mg x = some u ∧ RelV v u ∧ ∀ H F, Rep K H F v d := fun j x d h1 h2 => by
    match j, h1, h2 with
    | 0, h1, h2 =>
      cases h1; cases h2
      exact ⟨.str (sOf [97, 98, 99]), _, PySem.W.mg_of X G yy0, ⟨_, rfl⟩, fun _ _ => .str _ ⟨by decide, by decide⟩⟩
    | 1, h1, h2 =>
      cases h1; cases h2
      exact ⟨.str (sOf [46]), _, PySem.W.mg_of X G yy1, ⟨_, rfl⟩, fun _ _ => .str _ ⟨by decide, by decide⟩⟩
    | 2, h1, h2 =>
      cases h1; cases h2
      exact ⟨.int 9, _, PySem.W.mg_of X G yy2, ⟨_, rfl⟩, fun _ _ => .int _⟩
    | 3, h1, h2 =>
      cases h1; cases h2
      exact ⟨.int 14, _, PySem.W.mg_of X G yy3, ⟨_, rfl⟩, fun _ _ => .int _⟩
    | j + 4, h1, h2 => cases h1
  have CO : ClsOk K mg clss subR (clOf [C0, C1, C2, C3, C4, C5]) := by
    refine clsOk_mk rfl (fun n x C h1 h2 => ?_) (fun n m C D h1 h2 => ?_) (fun n m C h1 h2 => ?_)
    · match n, h1, h2 with
      | 0, h1, h2 => cases h1; cases h2; exact ⟨PySem.W.mg_of X G xa0, ⟨xg0, xk0, xs0, xd0, xc0, yn, yt, xm0⟩, xx0, xp0, xt0, xi0⟩
      | 1, h1, h2 => cases h1; cases h2; exact ⟨PySem.W.mg_of X G xa1, ⟨xg1, xk1, xs1, xd1, xc1, yn, yt, xm1⟩, xx1, xp1, xt1, xi1⟩
      | 2, h1, h2 => cases h1; cases h2; exact ⟨PySem.W.mg_of X G xa2, ⟨xg2, xk2, xs2, xd2, xc2, yn, yt, xm2⟩, xx2, xp2, xt2, xi2⟩
      | 3, h1, h2 => cases h1; cases h2; exact ⟨PySem.W.mg_of X G xa3, ⟨xg3, xk3, xs3, xd3, xc3, yn, yt, xm3⟩, xx3, xp3, xt3, xi3⟩
      | 4, h1, h2 => cases h1; cases h2; exact ⟨PySem.W.mg_of X G xa4, ⟨xg4, xk4, xs4, xd4, xc4, yn, yt, xm4⟩, xx4, xp4, xt4, xi4⟩
      | 5, h1, h2 => cases h1; cases h2; exact ⟨PySem.W.mg_of X G xa5, ⟨xg5, xk5, xs5, xd5, xc5, yn, yt, xm5⟩, xx5, xp5, xt5, xi5⟩
      | n + 6, h1, h2 => cases h1
    · match n, m, h1, h2 with
      | 0, 0, h1, h2 => cases h1; cases h2; exact s0_0
      | 0, 1, h1, h2 => cases h1; cases h2; exact s0_1
      | 0, 2, h1, h2 => cases h1; cases h2; exact s0_2
      | 0, 3, h1, h2 => cases h1; cases h2; exact s0_3
      | 0, 4, h1, h2 => cases h1; cases h2; exact s0_4
      | 0, 5, h1, h2 => cases h1; cases h2; exact s0_5
      | 0, m + 6, h1, h2 => cases h2
      | 1, 0, h1, h2 => cases h1; cases h2; exact s1_0
      | 1, 1, h1, h2 => cases h1; cases h2; exact s1_1
      | 1, 2, h1, h2 => cases h1; cases h2; exact s1_2
      | 1, 3, h1, h2 => cases h1; cases h2; exact s1_3
      | 1, 4, h1, h2 => cases h1; cases h2; exact s1_4
      | 1, 5, h1, h2 => cases h1; cases h2; exact s1_5
      | 1, m + 6, h1, h2 => cases h2
      | 2, 0, h1, h2 => cases h1; cases h2; exact s2_0
      | 2, 1, h1, h2 => cases h1; cases h2; exact s2_1
      | 2, 2, h1, h2 => cases h1; cases h2; exact s2_2
      | 2, 3, h1, h2 => cases h1; cases h2; exact s2_3
      | 2, 4, h1, h2 => cases h1; cases h2; exact s2_4
      | 2, 5, h1, h2 => cases h1; cases h2; exact s2_5
      | 2, m + 6, h1, h2 => cases h2
      | 3, 0, h1, h2 => cases h1; cases h2; exact s3_0
      | 3, 1, h1, h2 => cases h1; cases h2; exact s3_1
      | 3, 2, h1, h2 => cases h1; cases h2; exact s3_2
      | 3, 3, h1, h2 => cases h1; cases h2; exact s3_3
      | 3, 4, h1, h2 => cases h1; cases h2; exact s3_4
      | 3, 5, h1, h2 => cases h1; cases h2; exact s3_5
      | 3, m + 6, h1, h2 => cases h2
      | 4, 0, h1, h2 => cases h1; cases h2; exact s4_0
      | 4, 1, h1, h2 => cases h1; cases h2; exact s4_1
      | 4, 2, h1, h2 => cases h1; cases h2; exact s4_2
      | 4, 3, h1, h2 => cases h1; cases h2; exact s4_3
      | 4, 4, h1, h2 => cases h1; cases h2; exact s4_4
      | 4, 5, h1, h2 => cases h1; cases h2; exact s4_5
      | 4, m + 6, h1, h2 => cases h2
      | 5, 0, h1, h2 => cases h1; cases h2; exact s5_0
      | 5, 1, h1, h2 => cases h1; cases h2; exact s5_1
      | 5, 2, h1, h2 => cases h1; cases h2; exact s5_2
      | 5, 3, h1, h2 => cases h1; cases h2; exact s5_3
      | 5, 4, h1, h2 => cases h1; cases h2; exact s5_4
      | 5, 5, h1, h2 => cases h1; cases h2; exact s5_5
      | 5, m + 6, h1, h2 => cases h2
      | n + 6, m, h1, h2 => cases h1
    · match n, m, h1, h2 with
      | 0, 0, h1, h2 => rfl
      | 0, 1, h1, h2 => cases h1; cases h2; exact Option.some.inj (s0_1.symm.trans s0_0)
      | 0, 2, h1, h2 => cases h1; cases h2; exact Option.some.inj (s0_2.symm.trans s0_0)
      | 0, 3, h1, h2 => cases h1; cases h2; exact Option.some.inj (s0_3.symm.trans s0_0)
      | 0, 4, h1, h2 => cases h1; cases h2; exact Option.some.inj (s0_4.symm.trans s0_0)
      | 0, 5, h1, h2 => cases h1; cases h2; exact Option.some.inj (s0_5.symm.trans s0_0)
      | 0, m + 6, h1, h2 => cases h2
      | 1, 0, h1, h2 => rfl
      | 1, 1, h1, h2 => rfl
      | 1, 2, h1, h2 => cases h1; cases h2; exact Option.some.inj (s1_2.symm.trans s1_1)
      | 1, 3, h1, h2 => cases h1; cases h2; exact Option.some.inj (s1_3.symm.trans s1_1)
      | 1, 4, h1, h2 => cases h1; cases h2; exact Option.some.inj (s1_4.symm.trans s1_1)
      | 1, 5, h1, h2 => cases h1; cases h2; exact Option.some.inj (s1_5.symm.trans s1_1)
      | 1, m + 6, h1, h2 => cases h2
      | 2, 0, h1, h2 => rfl
      | 2, 1, h1, h2 => cases h1; cases h2; exact Option.some.inj (s2_1.symm.trans s2_2)
      | 2, 2, h1, h2 => rfl
      | 2, 3, h1, h2 => cases h1; cases h2; exact Option.some.inj (s2_3.symm.trans s2_2)
      | 2, 4, h1, h2 => cases h1; cases h2; exact Option.some.inj (s2_4.symm.trans s2_2)
      | 2, 5, h1, h2 => cases h1; cases h2; exact Option.some.inj (s2_5.symm.trans s2_2)
      | 2, m + 6, h1, h2 => cases h2
      | 3, 0, h1, h2 => rfl
      | 3, 1, h1, h2 => cases h1; cases h2; exact Option.some.inj (s3_1.symm.trans s3_3)
      | 3, 2, h1, h2 => cases h1; cases h2; exact Option.some.inj (s3_2.symm.trans s3_3)
      | 3, 3, h1, h2 => rfl
      | 3, 4, h1, h2 => cases h1; cases h2; exact Option.some.inj (s3_4.symm.trans s3_3)
      | 3, 5, h1, h2 => cases h1; cases h2; exact Option.some.inj (s3_5.symm.trans s3_3)
      | 3, m + 6, h1, h2 => cases h2
      | 4, 0, h1, h2 => rfl
      | 4, 1, h1, h2 => cases h1; cases h2; exact Option.some.inj (s4_1.symm.trans s4_4)
      | 4, 2, h1, h2 => cases h1; cases h2; exact Option.some.inj (s4_2.symm.trans s4_4)
      | 4, 3, h1, h2 => cases h1; cases h2; exact Option.some.inj (s4_3.symm.trans s4_4)
      | 4, 4, h1, h2 => rfl
      | 4, 5, h1, h2 => cases h1; cases h2; exact Option.some.inj (s4_5.symm.trans s4_4)
      | 4, m + 6, h1, h2 => cases h2
      | 5, 0, h1, h2 => rfl
      | 5, 1, h1, h2 => cases h1; cases h2; exact Option.some.inj (s5_1.symm.trans s5_5)
      | 5, 2, h1, h2 => cases h1; cases h2; exact Option.some.inj (s5_2.symm.trans s5_5)
      | 5, 3, h1, h2 => cases h1; cases h2; exact Option.some.inj (s5_3.symm.trans s5_5)
      | 5, 4, h1, h2 => cases h1; cases h2; exact Option.some.inj (s5_4.symm.trans s5_5)
      | 5, 5, h1, h2 => rfl
      | 5, m + 6, h1, h2 => cases h2
      | n + 6, m, h1, h2 => cases h1
  refine ⟨(clOf [C0, C1, C2, C3, C4, C5]), PySem.W.fnOf "law" "law" (L2.defArgs (top 35)) (L2.defBody (top 35)) (L2.defScope (top 35)) .none kV22 dc22 pm22 an22 cd22 ct22, fun s v => .of_eq rfl, fun base _ _ => ?_⟩
  have T0 : Tab l.prog w K mg base (clOf [C0, C1, C2, C3, C4, C5]) ΓA fns hots 0 0 := tab_zero
  have p0 := def_prom (P := l.prog) (w := w) (mg := mg) (base := base) (cl := (clOf [C0, C1, C2, C3, C4, C5])) (k := 0) (st := top 12) (fn := Gw.f_is_kinds) (c := ck_is_kinds) (Γ := ΓA) (G := GL) l0 c0 sc_is_kinds chk_is_kinds rfl (Gw.sem_is_kinds rfl) rfl nob glob CO T0
  have T1 := tab_succ T0 ⟨⟨f0, _, _, PySem.W.mg_of X G a0, k0, b0, rfl, p0⟩⟩ rfl rfl rfl (Nat.le_succ 0)
  have p1 := def_prom (P := l.prog) (w := w) (mg := mg) (base := base) (cl := (clOf [C0, C1, C2, C3, C4, C5])) (k := 1) (st := top 13) (fn := Gw.f_check_kinds 1) (c := ck_check_kinds) (Γ := ΓA) (G := GL) l1 c1 sc_check_kinds chk_check_kinds rfl (Gw.sem_check_kinds rfl) rfl nob glob CO T1
  have T2 := tab_succ T1 ⟨⟨f1, _, _, PySem.W.mg_of X G a1, k1, b1, rfl, p1⟩⟩ rfl rfl rfl (Nat.le_succ 1)
  have p2 := def_prom (P := l.prog) (w := w) (mg := mg) (base := base) (cl := (clOf [C0, C1, C2, C3, C4, C5])) (k := 2) (st := top 14) (fn := Gw.f_is_allowed) (c := ck_is_allowed) (Γ := ΓA) (G := GL) l2 c2 sc_is_allowed chk_is_allowed rfl (Gw.sem_is_allowed rfl rfl) rfl nob glob CO T2
  have T3 := tab_succ T2 ⟨⟨f2, _, _, PySem.W.mg_of X G a2, k2, b2, rfl, p2⟩⟩ rfl rfl rfl (Nat.le_succ 2)
  have p3 := def_prom (P := l.prog) (w := w) (mg := mg) (base := base) (cl := (clOf [C0, C1, C2, C3, C4, C5])) (k := 3) (st := top 15) (fn := Gw.f_end_of) (c := ck_end_of) (Γ := ΓA) (G := GL) l3 c3 sc_end_of chk_end_of rfl (Gw.sem_end_of rfl rfl) rfl nob glob CO T3
  have T4 := tab_succ T3 ⟨⟨f3, _, _, PySem.W.mg_of X G a3, k3, b3, rfl, p3⟩⟩ rfl rfl rfl (Nat.le_succ 3)
  have p4 := def_prom (P := l.prog) (w := w) (mg := mg) (base := base) (cl := (clOf [C0, C1, C2, C3, C4, C5])) (k := 4) (st := top 16) (fn := Gw.f_size_of) (c := ck_size_of) (Γ := ΓA) (G := GL) l4 c4 sc_size_of chk_size_of rfl (Gw.sem_size_of rfl) rfl nob glob CO T4
  have T5 := tab_succ T4 ⟨⟨f4, _, _, PySem.W.mg_of X G a4, k4, b4, rfl, p4⟩⟩ rfl rfl rfl (Nat.le_succ 4)
  have p5 := def_prom (P := l.prog) (w := w) (mg := mg) (base := base) (cl := (clOf [C0, C1, C2, C3, C4, C5])) (k := 5) (st := top 17) (fn := Gw.f_is_tree 1) (c := ck_is_tree) (Γ := ΓA) (G := GL) l5 c5 sc_is_tree chk_is_tree rfl (Gw.sem_is_tree rfl rfl rfl rfl rfl) rfl nob glob CO T5
  have T6 := tab_succ T5 ⟨⟨f5, _, _, PySem.W.mg_of X G a5, k5, b5, rfl, p5⟩⟩ rfl rfl rfl (Nat.le_succ 5)
  have p6 := def_prom (P := l.prog) (w := w) (mg := mg) (base := base) (cl := (clOf [C0, C1, C2, C3, C4, C5])) (k := 6) (st := top 18) (fn := Gw.f_check_tree 1 2) (c := ck_check_tree) (Γ := ΓA) (G := GL) l6 c6 sc_check_tree chk_check_tree rfl (Gw.sem_check_tree rfl) rfl nob glob CO T6
  have T7 := tab_succ T6 ⟨⟨f6, _, _, PySem.W.mg_of X G a6, k6, b6, rfl, p6⟩⟩ rfl rfl rfl (Nat.le_succ 6)
  have p7 := def_prom (P := l.prog) (w := w) (mg := mg) (base := base) (cl := (clOf [C0, C1, C2, C3, C4, C5])) (k := 7) (st := top 19) (fn := Gw.f_size 1 2) (c := ck_size) (Γ := ΓA) (G := GL) l7 c7 sc_size chk_size rfl (Gw.sem_size rfl rfl) rfl nob glob CO T7
  have T8 := tab_succ T7 ⟨⟨f7, _, _, PySem.W.mg_of X G a7, k7, b7, rfl, p7⟩⟩ rfl rfl rfl (Nat.le_succ 7)
  have p8 := def_prom (P := l.prog) (w := w) (mg := mg) (base := base) (cl := (clOf [C0, C1, C2, C3, C4, C5])) (k := 8) (st := top 20) (fn := Gw.f_width 1 2) (c := ck_width) (Γ := ΓA) (G := GL) l8 c8 sc_width chk_width rfl (Gw.sem_width rfl rfl) rfl nob glob CO T8
  have T9 := tab_succ T8 ⟨⟨f8, _, _, PySem.W.mg_of X G a8, k8, b8, rfl, p8⟩⟩ rfl rfl rfl (Nat.le_succ 8)
  have p9 := def_prom (P := l.prog) (w := w) (mg := mg) (base := base) (cl := (clOf [C0, C1, C2, C3, C4, C5])) (k := 9) (st := top 22) (fn := Gc.f__law_number) (c := ck__law_number) (Γ := ΓA) (G := GL) l9 c9 sc__law_number chk__law_number rfl (Gc.sem__law_number) rfl nob glob CO T9
  have T10 := tab_succ T9 ⟨⟨f9, _, _, PySem.W.mg_of X G a9, k9, b9, rfl, p9⟩⟩ rfl rfl rfl (Nat.le_succ 9)
  have p10 := def_prom (P := l.prog) (w := w) (mg := mg) (base := base) (cl := (clOf [C0, C1, C2, C3, C4, C5])) (k := 10) (st := top 23) (fn := Gc.f__law_draws) (c := ck__law_draws) (Γ := ΓA) (G := GL) l10 c10 sc__law_draws chk__law_draws rfl (Gc.sem__law_draws rfl) rfl nob glob CO T10
  have T11 := tab_succ T10 ⟨⟨f10, _, _, PySem.W.mg_of X G a10, k10, b10, rfl, p10⟩⟩ rfl rfl rfl (Nat.le_succ 10)
  have p11 := def_prom (P := l.prog) (w := w) (mg := mg) (base := base) (cl := (clOf [C0, C1, C2, C3, C4, C5])) (k := 11) (st := top 24) (fn := Gc.f__law_next) (c := ck__law_next) (Γ := ΓA) (G := GL) l11 c11 sc__law_next chk__law_next rfl (Gc.sem__law_next) rfl nob glob CO T11
  have T12 := tab_succ T11 ⟨⟨f11, _, _, PySem.W.mg_of X G a11, k11, b11, rfl, p11⟩⟩ rfl rfl rfl (Nat.le_succ 11)
  have p12 := def_prom (P := l.prog) (w := w) (mg := mg) (base := base) (cl := (clOf [C0, C1, C2, C3, C4, C5])) (k := 12) (st := top 25) (fn := K10.f__law_kinds) (c := ck__law_kinds) (Γ := ΓA) (G := GL) l12 c12 sc__law_kinds chk__law_kinds rfl (K10.sem__law_kinds rfl) rfl nob glob CO T12
  have T13 := tab_succ T12 ⟨⟨f12, _, _, PySem.W.mg_of X G a12, k12, b12, rfl, p12⟩⟩ rfl rfl rfl (Nat.le_succ 12)
  have p13 := def_prom (P := l.prog) (w := w) (mg := mg) (base := base) (cl := (clOf [C0, C1, C2, C3, C4, C5])) (k := 13) (st := top 26) (fn := K10.f__law_dots) (c := ck__law_dots) (Γ := ΓA) (G := GL) l13 c13 sc__law_dots chk__law_dots rfl (K10.sem__law_dots) rfl nob glob CO T13
  have T14 := tab_succ T13 ⟨⟨f13, _, _, PySem.W.mg_of X G a13, k13, b13, rfl, p13⟩⟩ rfl rfl rfl (Nat.le_succ 13)
  have p14 := def_prom (P := l.prog) (w := w) (mg := mg) (base := base) (cl := (clOf [C0, C1, C2, C3, C4, C5])) (k := 14) (st := top 27) (fn := K10.f__law_letters) (c := ck__law_letters) (Γ := ΓA) (G := GL) l14 c14 sc__law_letters chk__law_letters rfl (K10.sem__law_letters) rfl nob glob CO T14
  have T15 := tab_succ T14 ⟨⟨f14, _, _, PySem.W.mg_of X G a14, k14, b14, rfl, p14⟩⟩ rfl rfl rfl (Nat.le_succ 14)
  have p15 := def_prom (P := l.prog) (w := w) (mg := mg) (base := base) (cl := (clOf [C0, C1, C2, C3, C4, C5])) (k := 15) (st := top 28) (fn := K10.f__law_grown) (c := ck__law_grown) (Γ := ΓA) (G := GL) l15 c15 sc__law_grown chk__law_grown rfl (K10.sem__law_grown rfl rfl) rfl nob glob CO T15
  have T16 := tab_succ T15 ⟨⟨f15, _, _, PySem.W.mg_of X G a15, k15, b15, rfl, p15⟩⟩ rfl rfl rfl (Nat.le_succ 15)
  have p16 := def_prom (P := l.prog) (w := w) (mg := mg) (base := base) (cl := (clOf [C0, C1, C2, C3, C4, C5])) (k := 16) (st := top 29) (fn := K10.f__law_tree) (c := ck__law_tree) (Γ := ΓA) (G := GL) l16 c16 sc__law_tree chk__law_tree rfl (K10.sem__law_tree rfl rfl) rfl nob glob CO T16
  have T17 := tab_succ T16 ⟨⟨f16, _, _, PySem.W.mg_of X G a16, k16, b16, rfl, p16⟩⟩ rfl rfl rfl (Nat.le_succ 16)
  have p17 := def_prom (P := l.prog) (w := w) (mg := mg) (base := base) (cl := (clOf [C0, C1, C2, C3, C4, C5])) (k := 17) (st := top 30) (fn := K10.f__law_end) (c := ck__law_end) (Γ := ΓA) (G := GL) l17 c17 sc__law_end chk__law_end rfl (K10.sem__law_end) rfl nob glob CO T17
  have T18 := tab_succ T17 ⟨⟨f17, _, _, PySem.W.mg_of X G a17, k17, b17, rfl, p17⟩⟩ rfl rfl rfl (Nat.le_succ 17)
  have p18 := def_prom (P := l.prog) (w := w) (mg := mg) (base := base) (cl := (clOf [C0, C1, C2, C3, C4, C5])) (k := 18) (st := top 31) (fn := K10.f__law_kind [1] [2] [3] [5] [4] [0, 1, 2, 3, 4, 5]) (c := ck__law_kind) (Γ := ΓA) (G := GL) l18 c18 sc__law_kind chk__law_kind rfl (K10.sem__law_kind) rfl nob glob CO T18
  have T19 := tab_succ T18 ⟨⟨f18, _, _, PySem.W.mg_of X G a18, k18, b18, rfl, p18⟩⟩ rfl rfl rfl (Nat.le_succ 18)
  have p19 := def_prom (P := l.prog) (w := w) (mg := mg) (base := base) (cl := (clOf [C0, C1, C2, C3, C4, C5])) (k := 19) (st := top 32) (fn := K10.f__law_told) (c := ck__law_told) (Γ := ΓA) (G := GL) l19 c19 sc__law_told chk__law_told rfl (K10.sem__law_told rfl rfl rfl rfl rfl rfl (by decide) (by decide) (by decide) (by decide)) rfl nob glob CO T19
  have T20 := tab_succ T19 ⟨⟨f19, _, _, PySem.W.mg_of X G a19, k19, b19, rfl, p19⟩⟩ rfl rfl rfl (Nat.le_succ 19)
  have p20 := def_prom (P := l.prog) (w := w) (mg := mg) (base := base) (cl := (clOf [C0, C1, C2, C3, C4, C5])) (k := 20) (st := top 33) (fn := K10.f__law_spoilt) (c := ck__law_spoilt) (Γ := ΓA) (G := GL) l20 c20 sc__law_spoilt chk__law_spoilt rfl (K10.sem__law_spoilt rfl) rfl nob glob CO T20
  have T21 := tab_succ T20 ⟨⟨f20, _, _, PySem.W.mg_of X G a20, k20, b20, rfl, p20⟩⟩ rfl rfl rfl (Nat.le_succ 20)
  have p21 := def_prom (P := l.prog) (w := w) (mg := mg) (base := base) (cl := (clOf [C0, C1, C2, C3, C4, C5])) (k := 21) (st := top 34) (fn := K10.f__law_is_tree) (c := ck__law_is_tree) (Γ := ΓA) (G := GL) l21 c21 sc__law_is_tree chk__law_is_tree rfl (K10.sem__law_is_tree rfl rfl) rfl nob glob CO T21
  have T22 := tab_succ T21 ⟨⟨f21, _, _, PySem.W.mg_of X G a21, k21, b21, rfl, p21⟩⟩ rfl rfl rfl (Nat.le_succ 21)
  have p22 := def_prom (P := l.prog) (w := w) (mg := mg) (base := base) (cl := (clOf [C0, C1, C2, C3, C4, C5])) (k := 22) (st := top 35) (fn := Gc.lawFn) (c := ck_law) (Γ := ΓA) (G := GL) l22 c22 sc_law chk_law rfl (K10.sem_law rfl rfl rfl rfl rfl rfl rfl rfl rfl) rfl nob glob CO T22
  exact p22.1 rfl
end K10
open PySem PySem.W PyProof.Rows L2 Mini
set_option maxRecDepth 100000 in
set_option maxHeartbeats 0 in
set_option pp.maxSteps 300 in
theorem PySem.Challenge.cw_graftworth_k10_kinds_and_trees_holds : PySem.Challenge.rw_graftworth_k10_kinds_and_trees.Holds := by
  w_on; o_law; k_head; (case hw => w_witness2)
  k_fill
  refine Mini.walk_any (l := PySem.Challenge.rw_graftworth_k10_kinds_and_trees) (fn := Gc.lawFn) (k := 23) (x := "_law_script") rfl rfl ⟨rfl, by decide, by decide⟩ rfl (by simp [Gc.lawFn, intsD_map]) (fun w h Y => PySem.W.kIn_of Y) ?F
  case F =>
    intro w mg fa h KX G hmg
    refine' K10.all_mk KX G hmg ?a0 ?l0 ?c0 ?k0 ?a1 ?l1 ?c1 ?k1 ?a2 ?l2 ?c2 ?k2 ?a3 ?l3 ?c3 ?k3 ?a4 ?l4 ?c4 ?k4 ?a5 ?l5 ?c5 ?k5 ?a6 ?l6 ?c6 ?k6 ?a7 ?l7 ?c7 ?k7 ?a8 ?l8 ?c8 ?k8 ?a9 ?l9 ?c9 ?k9 ?a10 ?l10 ?c10 ?k10 ?a11 ?l11 ?c11 ?k11 ?a12 ?l12 ?c12 ?k12 ?a13 ?l13 ?c13 ?k13 ?a14 ?l14 ?c14 ?k14 ?a15 ?l15 ?c15 ?k15 ?a16 ?l16 ?c16 ?k16 ?a17 ?l17 ?c17 ?k17 ?a18 ?l18 ?c18 ?k18 ?a19 ?l19 ?c19 ?k19 ?a20 ?l20 ?c20 ?k20 ?a21 ?l21 ?c21 ?k21 ?a22 ?l22 ?c22 ?k22 ?yy0 ?yy1 ?yy2 ?yy3 ?z0 ?z1 ?z2 ?z3 ?z4 ?z5 ?z6 ?z7 ?z8 ?z9 ?z10 ?z11 ?z12 ?z13 ?z14 ?z15 ?z16 ?z17 ?z18 ?z19 ?z20 ?xa0 ?xg0 ?xk0 ?xs0 ?xd0 ?xc0 ?xm0 ?xx0 ?xp0 ?xt0 ?xi0 ?xa1 ?xg1 ?xk1 ?xs1 ?xd1 ?xc1 ?xm1 ?xx1 ?xp1 ?xt1 ?xi1 ?xa2 ?xg2 ?xk2 ?xs2 ?xd2 ?xc2 ?xm2 ?xx2 ?xp2 ?xt2 ?xi2 ?xa3 ?xg3 ?xk3 ?xs3 ?xd3 ?xc3 ?xm3 ?xx3 ?xp3 ?xt3 ?xi3 ?xa4 ?xg4 ?xk4 ?xs4 ?xd4 ?xc4 ?xm4 ?xx4 ?xp4 ?xt4 ?xi4 ?xa5 ?xg5 ?xk5 ?xs5 ?xd5 ?xc5 ?xm5 ?xx5 ?xp5 ?xt5 ?xi5 ?yn ?yt ?s0_0 ?s0_1 ?s0_2 ?s0_3 ?s0_4 ?s0_5 ?s1_0 ?s1_1 ?s1_2 ?s1_3 ?s1_4 ?s1_5 ?s2_0 ?s2_1 ?s2_2 ?s2_3 ?s2_4 ?s2_5 ?s3_0 ?s3_1 ?s3_2 ?s3_3 ?s3_4 ?s3_5 ?s4_0 ?s4_1 ?s4_2 ?s4_3 ?s4_4 ?s4_5 ?s5_0 ?s5_1 ?s5_2 ?s5_3 ?s5_4 ?s5_5
    (case a0 => k_is)
    (case l0 => k_is)
    (case c0 => k_is)
    (case k0 => k_is)
    (case a1 => k_is)
    (case l1 => k_is)
    (case c1 => k_is)
    (case k1 => k_is)
    (case a2 => k_is)
    (case l2 => k_is)
    (case c2 => k_is)
    (case k2 => k_is)
    (case a3 => k_is)
    (case l3 => k_is)
    (case c3 => k_is)
    (case k3 => k_is)
    (case a4 => k_is)
    (case l4 => k_is)
    (case c4 => k_is)
    (case k4 => k_is)
    (case a5 => k_is)
    (case l5 => k_is)
    (case c5 => k_is)
    (case k5 => k_is)
    (case a6 => k_is)
    (case l6 => k_is)
    (case c6 => k_is)
    (case k6 => k_is)
    (case a7 => k_is)
    (case l7 => k_is)
    (case c7 => k_is)
    (case k7 => k_is)
    (case a8 => k_is)
    (case l8 => k_is)
    (case c8 => k_is)
    (case k8 => k_is)
    (case a9 => k_is)
    (case l9 => k_is)
    (case c9 => k_is)
    (case k9 => k_is)
    (case a10 => k_is)
    (case l10 => k_is)
    (case c10 => k_is)
    (case k10 => k_is)
    (case a11 => k_is)
    (case l11 => k_is)
    (case c11 => k_is)
    (case k11 => k_is)
    (case a12 => k_is)
    (case l12 => k_is)
    (case c12 => k_is)
    (case k12 => k_is)
    (case a13 => k_is)
    (case l13 => k_is)
    (case c13 => k_is)
    (case k13 => k_is)
    (case a14 => k_is)
    (case l14 => k_is)
    (case c14 => k_is)
    (case k14 => k_is)
    (case a15 => k_is)
    (case l15 => k_is)
    (case c15 => k_is)
    (case k15 => k_is)
    (case a16 => k_is)
    (case l16 => k_is)
    (case c16 => k_is)
    (case k16 => k_is)
    (case a17 => k_is)
    (case l17 => k_is)
    (case c17 => k_is)
    (case k17 => k_is)
    (case a18 => k_is)
    (case l18 => k_is)
    (case c18 => k_is)
    (case k18 => k_is)
    (case a19 => k_is)
    (case l19 => k_is)
    (case c19 => k_is)
    (case k19 => k_is)
    (case a20 => k_is)
    (case l20 => k_is)
    (case c20 => k_is)
    (case k20 => k_is)
    (case a21 => k_is)
    (case l21 => k_is)
    (case c21 => k_is)
    (case k21 => k_is)
    (case a22 => k_is)
    (case l22 => k_is)
    (case c22 => k_is)
    (case k22 => k_is)
    (case yy0 => k_is)
    (case yy1 => k_is)
    (case yy2 => k_is)
    (case yy3 => k_is)
    (case z0 => k_is)
    (case z1 => k_is)
    (case z2 => k_is)
    (case z3 => k_is)
    (case z4 => k_is)
    (case z5 => k_is)
    (case z6 => k_is)
    (case z7 => k_is)
    (case z8 => k_is)
    (case z9 => k_is)
    (case z10 => k_is)
    (case z11 => k_is)
    (case z12 => k_is)
    (case z13 => k_is)
    (case z14 => k_is)
    (case z15 => k_is)
    (case z16 => k_is)
    (case z17 => k_is)
    (case z18 => k_is)
    (case z19 => k_is)
    (case z20 => k_is)
    (case xa0 => k_is)
    (case xg0 => k_is)
    (case xk0 => k_is)
    (case xs0 => k_is)
    (case xd0 => k_is)
    (case xc0 => k_is)
    (case xm0 => k_is)
    (case xx0 => k_exc)
    (case xp0 => k_is)
    (case xt0 => k_is)
    (case xi0 => k_is)
    (case xa1 => k_is)
    (case xg1 => k_is)
    (case xk1 => k_is)
    (case xs1 => k_is)
    (case xd1 => k_is)
    (case xc1 => k_is)
    (case xm1 => k_is)
    (case xx1 => k_exc)
    (case xp1 => k_is)
    (case xt1 => k_is)
    (case xi1 => k_is)
    (case xa2 => k_is)
    (case xg2 => k_is)
    (case xk2 => k_is)
    (case xs2 => k_is)
    (case xd2 => k_is)
    (case xc2 => k_is)
    (case xm2 => k_is)
    (case xx2 => k_exc)
    (case xp2 => k_is)
    (case xt2 => k_is)
    (case xi2 => k_is)
    (case xa3 => k_is)
    (case xg3 => k_is)
    (case xk3 => k_is)
    (case xs3 => k_is)
    (case xd3 => k_is)
    (case xc3 => k_is)
    (case xm3 => k_is)
    (case xx3 => k_exc)
    (case xp3 => k_is)
    (case xt3 => k_is)
    (case xi3 => k_is)
    (case xa4 => k_is)
    (case xg4 => k_is)
    (case xk4 => k_is)
    (case xs4 => k_is)
    (case xd4 => k_is)
    (case xc4 => k_is)
    (case xm4 => k_is)
    (case xx4 => k_exc)
    (case xp4 => k_is)
    (case xt4 => k_is)
    (case xi4 => k_is)
    (case xa5 => k_is)
    (case xg5 => k_is)
    (case xk5 => k_is)
    (case xs5 => k_is)
    (case xd5 => k_is)
    (case xc5 => k_is)
    (case xm5 => k_is)
    (case xx5 => k_exc)
    (case xp5 => k_is)
    (case xt5 => k_is)
    (case xi5 => k_is)
    (case yn => k_is)
    (case yt => k_is)
    (case s0_0 => first | rfl | k_is)
    (case s0_1 => first | rfl | k_is)
    (case s0_2 => first | rfl | k_is)
    (case s0_3 => first | rfl | k_is)
    (case s0_4 => first | rfl | k_is)
    (case s0_5 => first | rfl | k_is)
    (case s1_0 => first | rfl | k_is)
    (case s1_1 => first | rfl | k_is)
    (case s1_2 => first | rfl | k_is)
    (case s1_3 => first | rfl | k_is)
    (case s1_4 => first | rfl | k_is)
    (case s1_5 => first | rfl | k_is)
    (case s2_0 => first | rfl | k_is)
    (case s2_1 => first | rfl | k_is)
    (case s2_2 => first | rfl | k_is)
    (case s2_3 => first | rfl | k_is)
    (case s2_4 => first | rfl | k_is)
    (case s2_5 => first | rfl | k_is)
    (case s3_0 => first | rfl | k_is)
    (case s3_1 => first | rfl | k_is)
    (case s3_2 => first | rfl | k_is)
    (case s3_3 => first | rfl | k_is)
    (case s3_4 => first | rfl | k_is)
    (case s3_5 => first | rfl | k_is)
    (case s4_0 => first | rfl | k_is)
    (case s4_1 => first | rfl | k_is)
    (case s4_2 => first | rfl | k_is)
    (case s4_3 => first | rfl | k_is)
    (case s4_4 => first | rfl | k_is)
    (case s4_5 => first | rfl | k_is)
    (case s5_0 => first | rfl | k_is)
    (case s5_1 => first | rfl | k_is)
    (case s5_2 => first | rfl | k_is)
    (case s5_3 => first | rfl | k_is)
    (case s5_4 => first | rfl | k_is)
    (case s5_5 => first | rfl | k_is)
#print axioms PySem.Challenge.cw_graftworth_k10_kinds_and_trees_holds

