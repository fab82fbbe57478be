import PyProof.Rows.All
import Wide.All
import OpenK.AllK
import Wide.FinOn
import HandS.ForMost
import HandS.ExcCtx
import HandS.HotCalls
import HandS.ExcInit
import HandS.IsInst
import HandS.Wide
import HandS.EndBits
import HandS.ExcIs
import HandS.ExcField
import HandS.Conv
import HandS.SortInts
import HandS.RevRange
import KE.SortData
import KE.DataMinMax
import HandS.Defaults
import HandS.RaiseMore
import HandS.Iter
import KE.KExcIs
import HandS.SortKw
import HandS.Flt
import PySem.Challenge.RW_airwheel_k32_run_nearest_of_runs
set_option Elab.async false
set_option linter.all false
set_option maxRecDepth 100000
set_option maxHeartbeats 4000000
/-! Kv 1: values as trees, a small syntax, its evaluator. -/
namespace Kv
open PySem

/-- what a display of a dict holds -/
inductive Sc where
  | i (n : Int) | s (z : Str)
  deriving DecidableEq
/-- a value as a tree; the bit of a list: this place alone holds it -/
inductive T where
  | non | bl (b : Bool) | int (i : Int) | str (s : Str)
  | scr (ns : List Int)
  | dic (kvs : List (Str × Sc))
  | lst (o : Bool) (xs : List T)
  | tup (xs : List T)
  | exc (c : Nat) (fs : List T)

mutual
def T.fz : T → T
  | .lst _ xs => .lst false (T.fzL xs)
  | .tup xs => .tup (T.fzL xs)
  | .non => .non
  | .bl b => .bl b
  | .int i => .int i
  | .str s => .str s
  | .scr ns => .scr ns
  | .dic k => .dic k
  | .exc c fs => .exc c fs
def T.fzL : List T → List T
  | [] => []
  | t :: ts => T.fz t :: T.fzL ts
end
/-- the children frozen -/
def T.fk : T → T
  | .lst o xs => .lst o (T.fzL xs)
  | .tup xs => .tup (T.fzL xs)
  | t => t
mutual
/-- no list in it that another place may hold -/
def T.deep : T → Bool
  | .lst o xs => o && T.deepL xs
  | .tup xs => T.deepL xs
  | .non => true
  | .bl _ => true
  | .int _ => true
  | .str _ => true
  | .scr _ => false
  | .dic _ => false
  | .exc _ _ => false
def T.deepL : List T → Bool
  | [] => true
  | t :: ts => T.deep t && T.deepL ts
end

abbrev Env := List (Option T)
inductive Rs (α : Type) where
  | ok (a : α) (g : Env) | exc (c : Nat) (fs : List T) (g : Env) | bad
/-- what a def gives: its value, the trees of its in-out parameters -/
inductive Fr where
  | ok (t : T) (ios : Env) | exc (c : Nat) (fs : List T) (ios : Env) | bad
inductive Fl where
  | nx (g : Env) | bk (g : Env) | ct (g : Env) | rt (t : T) (g : Env) | exc (c : Nat) (fs : List T) (g : Env) | bad

/-- operators, built-ins, methods that change nothing -/
inductive Op where
  | add | sub | mul | fdiv | mod | pow | neg
  | eq | ne | lt | le | gt | ge | isN | notN
  | inn | notin
  | len | abs | toInt | min2 | max2 | toList | toTup | lrange
  | idx | isT (n : String) | slice (lo hi : Bool)
  | isE (cs : List Nat) | fld (f : Str)
  | dsp (kvs : List (Str × Sc)) | dget
  | sumL | maxL | minL | anyL | allL | sortL | join | truL
  | upper | str | words | split (b : Str) | cntT
  | min3 | max3 | minDf | maxDf | sortR | lidx
  deriving DecidableEq

mutual
inductive E where
  | k (t : T)
  | var (i : Nat) | mv (i : Nat) | mvi (v i : Nat)
  | op (o : Op) (es : Es)
  | lst (es : Es) | tup (es : Es)
  | and (a b : E) | or (a b : E) | not (a : E) | ite (c a b : E)
  | chain (o p : Op) (a b c : E)
  | slv (v : Nat) (lo hi : E) | mtB (o : Op) (v : Nat) (b : E) | hld (i : Nat) (e : E) | pk2 (v k c : Nat) | pkl (v k : Nat) | pki (v k : Nat)
  | callB (f : Nat) (es : Es) | callF (f : Nat) (es : Es) | callI (f : Nat) (es : Es) | callK (f n : Nat) (perm : List Nat) (dfl : List T) (es : Es)
  | comp (tg : Tg) (it : It) (cond : E) (elt : E)
inductive Es where
  | nil | e (a : E) (r : Es) | v (i : Nat) (r : Es)
/-- what a loop walks -/
inductive It where
  | e (a : E) | v (i : Nat) | rng (es : Es) | enm (a : E) | rev (a : E) | zip (es : Es) | revR (es : Es) | rng3 (es : Es)
inductive Tg where
  | one (i : Nat) | many (is : List Nat)
end
mutual
inductive Sm where
  | asg (i : Nat) (e : E) | par (i j : Nat) (es : Es) | unp (is : List Nat) (e : E)
  | seti (v : Nat) (i e : E) | app (v : Nat) (e : E) | augi (v : Nat) (i : E) (o : Op) (e : E)
  | aug (v : Nat) (o : Op) (e : E)
  | ex (e : E) | ret (e : E) | retN | hldL (i : Nat) (s : Sm)
  | ite (c : E) (a b : Sms)
  | loop (tg : Tg) (it : It) (body : Sms)
  | whl (c : E) (body : Sms)
  | rais (c : Nat) (es : Es)
  | tryA (body : Sms) (c : Nat) (v : Nat) (h : Sms)
  | tryM (body : Sms) (cs : List Nat) (h : Sms)
  | brk | cnt | pas
inductive Sms where
  | nil | cons (s : Sm) (r : Sms)
end

/-- an operand: a name (looked up when the operator runs), a value -/
inductive Od where
  | v (i : Nat) | x (t : T)
def Od.get (g : Env) (o : Od) : Option T := match o with
  | .v i => g.getD i none
  | .x t => some t
def getL (g : Env) : List Od → Option (List T)
  | [] => some []
  | o :: os => match o.get g, getL g os with
    | some t, some ts => some (t :: ts)
    | _, _ => none
/-- all that names hold, frozen -/
def fzG (g : Env) : Env := g.map (Option.map T.fz)
/-- .. but one name's -/
def holdG (i : Nat) (g : Env) : Env := (fzG g).set i (g.getD i none)
/-- the children of the named operands frozen -/
def fkV (g : Env) : List Od → Env
  | [] => g
  | .v i :: os => fkV (g.set i ((g.getD i none).map T.fk)) os
  | .x _ :: os => fkV g os
def tmps : List Od → Option (List T)
  | [] => some []
  | .x t :: os => (tmps os).map (t :: ·)
  | .v _ :: _ => none
def vars : List Od → List Nat
  | [] => []
  | .v i :: os => i :: vars os
  | .x _ :: os => vars os
/-- the arguments of an in-out call: names as they are, values frozen -/
def ioArgs (g : Env) : List Od → Option (List T)
  | [] => some []
  | .v i :: os => match g.getD i none, ioArgs g os with
    | some t, some ts => some (t :: ts)
    | _, _ => none
  | .x t :: os => (ioArgs g os).map (t.fz :: ·)
/-- the named operands' slots empty -/
def clrV (g : Env) : List Od → Env
  | [] => g
  | .v i :: os => clrV (g.set i none) os
  | .x _ :: os => clrV g os
/-- behind an in-out call -/
def putIo (g : Env) : List Od → Env → Env
  | .v i :: os, io :: ios => putIo (g.set i io) os ios
  | .x _ :: os, _ :: ios => putIo g os ios
  | _, _ => g

def ints2 (f : Int → Int → Option T) : List T → Option T
  | [.int a, .int b] => f a b
  | _ => none
mutual
def T.toD : T → PyData
  | .non => .none
  | .bl b => .bool b
  | .int i => .int i
  | .str s => .str s
  | .scr ns => .list (ns.map .int)
  | .dic _ => .none
  | .lst _ xs => .list (T.toDL xs)
  | .tup xs => .tuple (T.toDL xs)
  | .exc _ _ => .none
def T.toDL : List T → List PyData
  | [] => []
  | t :: ts => T.toD t :: T.toDL ts
end
mutual
/-- data that may be compared -/
def T.data : T → Bool
  | .scr _ => false
  | .dic _ => false
  | .exc _ _ => false
  | .lst _ xs => T.dataL xs
  | .tup xs => T.dataL xs
  | .non => true
  | .bl _ => true
  | .int _ => true
  | .str _ => true
def T.dataL : List T → Bool
  | [] => true
  | t :: ts => T.data t && T.dataL ts
end
def cmpOk (a b : T) : Bool := a.data && b.data && SeqAt.shaped a.toD && SeqAt.shaped b.toD
/-- scalars of one kind compare by themselves -/
def eqT : T → T → Option Bool
  | .int a, .int b => some (decide (a = b))
  | .str a, .str b => some (decide (a = b))
  | .bl a, .bl b => some (decide (a = b))
  | .non, .non => some true
  | a, b => if cmpOk a b then some (PyData.eqv a.toD b.toD) else none
def isTy (n : String) : T → Option Bool
  | .int _ => some (n == "int")
  | .bl _ => some (n == "bool" || n == "int")
  | .str _ => some (n == "str")
  | .non => some false
  | .lst _ _ => some (n == "list")
  | .scr _ => none
  | .dic _ => none
  | .tup _ => some (n == "tuple")
  | .exc _ _ => none
/-- a class of this program: 0 is the base class of its errors -/
def isSub (c d : Nat) : Bool := c == d || d == 0
/-- the fields of each class -/
def flds : Nat → List Str
  | 1 => ["what", "limit"] | 2 => ["what"] | 3 => ["at"] | 4 => ["what"] | 5 => ["mark"] | 6 => ["total", "slots"] | 7 => ["what"]
  | 8 => ["mark", "number", "slots", "apart"] | 9 => ["marks", "number", "slots", "apart", "days"] | 10 => ["first", "second", "mark"]
  | 11 => ["name", "period"] | 12 => ["small", "great"] | 13 => ["top", "bottom"] | 14 => ["first", "last", "total", "span"] | 15 => ["span", "nearest"]
  | _ => []
def fldOf : List Str → List T → Str → Option T
  | n :: ns, t :: ts, f => if n = f then some t else fldOf ns ts f
  | _, _, _ => none
def bigMul (i j : Int) : Bool := decide (i.natAbs.log2 + j.natAbs.log2 < 1000000)
def okDiv (j : Int) : Bool := decide (0 < j) && decide (j.natAbs.log2 < 9000)

def T.isNon : T → Bool
  | .non => true
  | _ => false
def seqOf : T → Option (List T)
  | .lst _ xs => some xs
  | .tup xs => some xs
  | .str z => some (z.cps.toList.map fun c => .str ⟨#[c]⟩)
  | _ => none
/-- numbered -/
def enmT (xs : List T) : List T := (List.range xs.length).zipWith (fun i t => .tup [.int (i : Nat), t]) xs
def zipT (xs ys : List T) : List T := xs.zipWith (fun a b => .tup [a, b]) ys
def lstOf : T → Option (List T)
  | .lst _ xs => some xs
  | _ => none
def zipS : List T → Option (List T)
  | [.lst _ xs, .lst _ ys] => some (zipT xs ys)
  | _ => none
def optInt : T → Option (Option Int)
  | .int i => some (some i)
  | _ => none
def cutT (xs : List T) (lo hi : Option Int) : List T := (xs.drop (HT.sIx xs.length 0 lo)).take (HT.sIx xs.length xs.length hi - HT.sIx xs.length 0 lo)

def int2 (f : Int → Int → Option T) : List T → Option T
  | [.int a, .int b] => f a b
  | _ => none
def ltS (a b : Str) : Bool := decide (a.cps.toList < b.cps.toList)
/-- an order of ints, of texts -/
def cmp2 (f : Int → Int → Bool) (h : Str → Str → Bool) : List T → Option T
  | [.int a, .int b] => some (.bl (f a b))
  | [.str a, .str b] => some (.bl (h a b))
  | _ => none
def upperS : List T → Option T
  | [.str a] => if a.length ≤ 5592405 then some (.str (Txt.upper a)) else none
  | _ => none
def strS : List T → Option T
  | [.int i] => if i.natAbs.log2 < 1920 then some (.str (toString i)) else none
  | [.str a] => some (.str a)
  | _ => none
def wordsS : List T → Option T
  | [.str a] => if a.length + 2 ≤ sizeLine then some (.lst true ((Txt.words a).map .str)) else none
  | _ => none
def splitS (b : Str) : List T → Option T
  | [.str a] => if (b.length == 0) = false ∧ a.length + 2 ≤ sizeLine then some (.lst true ((Txt.split a b).map .str)) else none
  | _ => none
def addS : List T → Option T
  | [.int a, .int b] => some (.int (a + b))
  | [.str a, .str b] => if a.length + b.length ≤ sizeLine then some (.str (a ++ b)) else none
  | [.lst _ a, .lst _ b] => if a.length + b.length ≤ sizeLine then some (.lst true (a ++ b)) else none
  | _ => none
def mulS : List T → Option T
  | [.int a, .int b] => if bigMul a b then some (.int (a * b)) else none
  | [.lst _ a, .int k] => if a.length * k.toNat ≤ sizeLine ∧ -(2 ^ 63) ≤ k ∧ k < 2 ^ 63 then some (.lst true (List.replicate k.toNat a).flatten) else none
  | _ => none
def lenS : List T → Option T
  | [.lst _ xs] => some (.int xs.length)
  | [.tup xs] => some (.int xs.length)
  | [.str s] => if s.length ≤ sizeLine then some (.int s.length) else none
  | _ => none
def int1 (f : Int → Option T) : List T → Option T
  | [.int a] => f a
  | _ => none
def toIntS : List T → Option T
  | [.int a] => some (.int a)
  | [.bl b] => some (.int (if b then 1 else 0))
  | _ => none
def toListS : List T → Option T
  | [.lst _ xs] => some (.lst true xs)
  | [.tup xs] => some (.lst true xs)
  | [.scr ns] => some (.lst true (ns.map .int))
  | _ => none
def toTupS : List T → Option T
  | [.lst _ xs] => some (.tup xs)
  | _ => none
def idxS : List T → Option T
  | [.lst _ xs, .int i] => L2.atI xs i
  | [.tup xs, .int i] => L2.atI xs i
  | [.str z, .int i] => if z.length ≤ sizeLine then (L2.atI z.cps.toList i).map fun c => .str ⟨#[c]⟩ else none
  | _ => none
def lrangeS : List T → Option T
  | [.int j] => if -(2 ^ 62) ≤ j ∧ j < 2 ^ 62 ∧ j.toNat ≤ 2 ^ 24 then some (.lst true ((List.range (j - 0).toNat).map fun (k : Nat) => .int (0 + (k : Int)))) else none
  | [.int i, .int j] => if (-(2 ^ 62) ≤ i ∧ i < 2 ^ 62) ∧ (-(2 ^ 62) ≤ j ∧ j < 2 ^ 62) ∧ (j - i).toNat ≤ 2 ^ 24 then some (.lst true ((List.range (j - i).toNat).map fun (k : Nat) => .int (i + (k : Int)))) else none
  | _ => none
def one1 (f : T → Option T) : List T → Option T
  | [a] => f a
  | _ => none
def two2 (f : T → T → Option T) : List T → Option T
  | [a, b] => f a b
  | _ => none
def sl0 : List T → Option T
  | [.lst _ xs] => some (.lst true (cutT xs none none))
  | [.str z] => if z.length ≤ sizeLine then some (.str (L2.cutS z none none)) else none
  | _ => none
def slLo : List T → Option T
  | [.lst _ xs, .int i] => some (.lst true (cutT xs (some i) none))
  | [.str z, .int i] => if z.length ≤ sizeLine then some (.str (L2.cutS z (some i) none)) else none
  | _ => none
def slHi : List T → Option T
  | [.lst _ xs, .int i] => some (.lst true (cutT xs none (some i)))
  | [.str z, .int i] => if z.length ≤ sizeLine then some (.str (L2.cutS z none (some i))) else none
  | _ => none
def sl2 : List T → Option T
  | [.lst _ xs, .int i, .int j] => some (.lst true (cutT xs (some i) (some j)))
  | [.str z, .int i, .int j] => if z.length ≤ sizeLine then some (.str (L2.cutS z (some i) (some j))) else none
  | _ => none
def sliceS : Bool → Bool → List T → Option T
  | false, false => sl0
  | true, false => slLo
  | false, true => slHi
  | true, true => sl2
def isES (cs : List Nat) : List T → Option T
  | [.exc c _] => some (.bl (cs.any (isSub c)))
  | _ => none
def fldS (f : Str) : List T → Option T
  | [.exc c fs] => fldOf (flds c) fs f
  | _ => none
def Sc.t : Sc → T
  | .i n => .int n
  | .s z => .str z
/-- the last that a display says of a key -/
def dlk : List (Str × Sc) → Str → Option Sc
  | [], _ => none
  | (a, c) :: r, k => match dlk r k with
    | some t => some t
    | none => if k = a then some c else none
def dspS (kvs : List (Str × Sc)) : List T → Option T
  | [] => some (.dic kvs)
  | _ => none
def dgetS : List T → Option T
  | [.dic kvs, .str k] => (dlk kvs k).map Sc.t
  | _ => none
def intsT : List T → Option (List Int)
  | [] => some []
  | .int i :: r => (intsT r).map (i :: ·)
  | _ => none
def blsT : List T → Option (List Bool)
  | [] => some []
  | .bl i :: r => (blsT r).map (i :: ·)
  | _ => none
def strsT : List T → Option (List Str)
  | [] => some []
  | .str i :: r => (strsT r).map (i :: ·)
  | _ => none
/-- a list's items as they are -/
def lst1 {α : Type} (f : List T → Option α) (k : α → Option T) : List T → Option T
  | [.lst _ xs] => (f xs).bind k
  | _ => none
def maxI : List Int → Option Int
  | [] => none
  | n :: ns => some (ns.foldl (fun m x => if m < x then x else m) n)
def minI : List Int → Option Int
  | [] => none
  | n :: ns => some (ns.foldl (fun m x => if x < m then x else m) n)
def sortI (ns : List Int) : List Int := ns.mergeSort fun a b => decide (a ≤ b)
/-- texts by their signs -/
def leS (a b : Str) : Bool := !PySem.Spec.ltCps b.cps.toList a.cps.toList
def sortS (ns : List Str) : List Str := ns.mergeSort leS
mutual
/-- tuples and what is no list -/
def T.hard : T → Bool
  | .tup xs => T.hardL xs
  | .non => true
  | .bl _ => true
  | .int _ => true
  | .str _ => true
  | _ => false
def T.hardL : List T → Bool
  | [] => true
  | t :: ts => T.hard t && T.hardL ts
end
def isTup1 : T → Bool
  | .tup (_ :: _) => true
  | _ => false
/-- tuples by the order of their data -/
def leD (a b : T) : Bool := PySem.W.dataLe false T.toD a b
def sortOk (xs : List T) : Bool := xs.all fun x => isTup1 x && x.hard && decide (x.toD.depth ≤ 60) && xs.all fun y => PySem.W.alike x.toD y.toD
def sortT : List T → Option T
  | [.lst _ xs] => match intsT xs with
    | some ns => some (.lst true ((sortI ns).map .int))
    | none => match strsT xs with
      | some zs => some (.lst true ((sortS zs).map .str))
      | none => if sortOk xs = true then some (.lst true (xs.mergeSort leD)) else none
  | _ => none
/-- data that may be asked for the least -/
def dataOk (xs : List T) : Bool := xs.all fun x => !x.isNon && x.hard && decide (x.toD.depth ≤ 60) && xs.all fun y => PySem.W.alike x.toD y.toD
/-- the first of the least, by an order -/
def bestT (f : PyData → PyData → Bool) : List T → Option T
  | [] => none
  | x :: xs => some (xs.foldl (fun a y => if f y.toD a.toD then y else a) x)
def minT : List T → Option T
  | [.lst _ xs] => match intsT xs with
    | some ns => (minI ns).map .int
    | none => if dataOk xs = true then bestT PySem.W.dataLt xs else none
  | _ => none
def maxT : List T → Option T
  | [.lst _ xs] => match intsT xs with
    | some ns => (maxI ns).map .int
    | none => if dataOk xs = true then bestT (fun a b => PySem.W.dataLt b a) xs else none
  | _ => none
/-- min, max with a default; a list from its greatest item -/
def minDfT : List T → Option T
  | [.lst _ [], d] => if d.isNon || d.hard then some d else none
  | [.lst o (x :: xs), _] => minT [.lst o (x :: xs)]
  | _ => none
def maxDfT : List T → Option T
  | [.lst _ [], d] => if d.isNon || d.hard then some d else none
  | [.lst o (x :: xs), _] => maxT [.lst o (x :: xs)]
  | _ => none
def sortRI (ns : List Int) : List Int := ns.mergeSort fun a b => decide (b ≤ a)
/-- tuples by the order of their data, the greatest first -/
def geD (a b : T) : Bool := PySem.W.dataLe true T.toD a b
def sortRT : List T → Option T
  | [.lst _ xs, .bl true] => match intsT xs with
    | some ns => some (.lst true ((sortRI ns).map .int))
    | none => if sortOk xs = true then some (.lst true (xs.mergeSort geD)) else none
  | _ => none
def int3 (f : Int → Int → Int → Option T) : List T → Option T
  | [.int a, .int b, .int c] => f a b c
  | _ => none
/-- what a value says as a condition -/
def truT : T → Option Bool
  | .non => some false
  | .bl b => some b
  | .int i => some (i != 0)
  | .str z => if z.length ≤ sizeLine then some ((z.length : Int) != 0) else none
  | .lst _ xs => some (!xs.isEmpty)
  | .tup xs => some (!xs.isEmpty)
  | _ => none
def joinS : List T → Option T
  | [.str a, .lst _ xs] => (strsT xs).bind fun ys => if (ys.map (·.length)).sum + ys.length * a.length ≤ 16777216 then some (.str (Txt.join a ys)) else none
  | _ => none
def T.flat : T → Bool
  | .non => true
  | .bl _ => true
  | .int _ => true
  | .str _ => true
  | _ => false
/-- == of flat values -/
def eqF : T → T → Bool
  | .non, .non => true
  | .bl a, .bl b => a == b
  | .bl a, .int b => (if a then 1 else 0) == b
  | .int a, .bl b => a == (if b then 1 else 0)
  | .int a, .int b => a == b
  | .str a, .str b => a == b
  | _, _ => false
def inS (x y : T) : Option Bool := match y with
  | .lst _ xs => if x.flat && xs.all T.flat then some (xs.any fun t => eqF t x) else none
  | .tup xs => if x.flat && xs.all T.flat then some (xs.any fun t => eqF t x) else none
  | .str z => match x with
    | .str w => match w.cps.toList with
      | [c] => some (decide (c ∈ z.cps.toList))
      | _ => none
    | _ => none
  | _ => none
/-- the first place of an equal item -/
def lidxS : List T → Option T
  | [.lst _ xs, y] => if y.flat && xs.all T.flat then (xs.findIdx? fun t => eqF t y).map fun j => .int (j : Nat) else none
  | _ => none
def opS : Op → List T → Option T
  | .add => addS
  | .sub => int2 fun a b => some (.int (a - b))
  | .mul => mulS
  | .fdiv => int2 fun a b => if okDiv b then some (.int (a / b)) else none
  | .mod => int2 fun a b => if 0 < b then some (.int (a % b)) else none
  | .pow => int2 fun a b => if 0 ≤ b ∧ (Builtin.Int.intBits a : Int) * b ≤ 2 ^ 27 then some (.int (a ^ b.toNat)) else none
  | .neg => int1 fun a => some (.int (-a))
  | .eq => two2 fun a b => (eqT a b).map .bl
  | .ne => two2 fun a b => (eqT a b).map fun x => .bl (!x)
  | .lt => cmp2 (fun a b => decide (a < b)) ltS
  | .le => cmp2 (fun a b => decide (a ≤ b)) fun a b => !ltS b a
  | .gt => cmp2 (fun a b => decide (b < a)) fun a b => ltS b a
  | .ge => cmp2 (fun a b => decide (b ≤ a)) fun a b => !ltS a b
  | .upper => upperS
  | .str => strS
  | .words => wordsS
  | .split b => splitS b
  | .isN => one1 fun a => some (.bl a.isNon)
  | .notN => one1 fun a => some (.bl (!a.isNon))
  | .inn => two2 fun a b => (inS a b).map .bl
  | .notin => two2 fun a b => (inS a b).map fun x => .bl (!x)
  | .len => lenS
  | .abs => int1 fun a => some (.int (if a < 0 then -a else a))
  | .toInt => toIntS
  | .min2 => int2 fun i j => some (.int (if j < i then j else i))
  | .max2 => int2 fun i j => some (.int (if j > i then j else i))
  | .toList => toListS
  | .toTup => toTupS
  | .lrange => lrangeS
  | .idx => idxS
  | .isT n => one1 fun t => (isTy n t).map .bl
  | .slice a b => sliceS a b
  | .isE cs => isES cs
  | .fld f => fldS f
  | .dsp kvs => dspS kvs
  | .dget => dgetS
  | .cntT => lst1 blsT fun bs => some (.int (bs.count true : Nat))
  | .sumL => lst1 intsT fun ns => some (.int ns.sum)
  | .maxL => maxT
  | .minL => minT
  | .min3 => int3 fun a b c => some (.int (if c < (if b < a then b else a) then c else if b < a then b else a))
  | .max3 => int3 fun a b c => some (.int (if (if a < b then b else a) < c then c else if a < b then b else a))
  | .minDf => minDfT
  | .maxDf => maxDfT
  | .sortR => sortRT
  | .lidx => lidxS
  | .anyL => lst1 blsT fun bs => some (.bl (bs.any id))
  | .allL => lst1 blsT fun bs => some (.bl (bs.all id))
  | .sortL => sortT
  | .join => joinS
  | .truL => one1 fun t => (truT t).map .bl

def Rs.bind {α β : Type} (r : Rs α) (f : α → Env → Rs β) : Rs β := match r with
  | .ok a g => f a g
  | .exc c fs g => .exc c fs g
  | .bad => .bad
def put1 (i : Nat) (t : T) (pins : List Nat) (g : Env) : Option Env := if i ∈ pins then none else if i < g.length then some (g.set i (some t)) else none
def putN : List Nat → List T → List Nat → Env → Option Env
  | [], [], _, g => some g
  | i :: is, t :: ts, P, g => (put1 i t P g).bind fun g => putN is ts P g
  | _, _, _, _ => none
/-- a target takes a value -/
def Tg.put (tg : Tg) (t : T) (P : List Nat) (g : Env) : Option Env := match tg with
  | .one i => put1 i t P g
  | .many is => match t with
    | .tup ts => putN is (T.fzL ts) P g
    | _ => none
def Tg.slots : Tg → List Nat
  | .one i => [i]
  | .many is => is
def wipeE (g : Env) : List Nat → Env
  | [] => g
  | i :: is => (wipeE g is).set i none
mutual
/-- nothing in it is its place's own -/
def T.shr : T → Bool
  | .lst o xs => !o && T.shrL xs
  | .tup xs => T.shrL xs
  | .non => true
  | .bl _ => true
  | .int _ => true
  | .str _ => true
  | .scr _ => true
  | .dic _ => true
  | .exc _ _ => true
def T.shrL : List T → Bool
  | [] => true
  | t :: ts => T.shr t && T.shrL ts
end
/-- the slots of is as in g0, where nothing own stood there -/
def backE (g0 g : Env) : List Nat → Env
  | [] => g
  | i :: is => match g0.getD i none with
    | some t => if t.shr then (backE g0 g is).set i (some t) else backE g0 g is
    | none => backE g0 g is
def inBack (p : Option (Nat × T)) (l : List Nat) : Bool := match p with
  | some (i, _) => decide (i ∈ l)
  | none => false
def pinIt (p : Option (Nat × T)) (l : List Nat) : List Nat := match p with
  | some (i, _) => i :: l
  | none => l
/-- the walked list is put back -/
def unIt (p : Option (Nat × T)) (g : Env) : Env := match p with
  | some (i, t) => g.set i (some t)
  | none => g
def Fl.upd (f : Env → Env) : Fl → Fl
  | .nx g => .nx (f g)
  | .bk g => .bk (f g)
  | .ct g => .ct (f g)
  | .rt t g => .rt t (f g)
  | .exc c fs g => .exc c fs (f g)
  | .bad => .bad
mutual
/-- no error in it -/
def T.noe : T → Bool
  | .lst _ xs => T.noeL xs
  | .tup xs => T.noeL xs
  | .exc _ _ => false
  | .non => true
  | .bl _ => true
  | .int _ => true
  | .str _ => true
  | .scr _ => true
  | .dic _ => true
def T.noeL : List T → Bool
  | [] => true
  | t :: ts => T.noe t && T.noeL ts
end
def noeG : Env → Bool
  | [] => true
  | none :: g => noeG g
  | some t :: g => t.noe && noeG g
def clr1 (v : Option Nat) (g : Env) : Env := match v with
  | some v => g.set v none
  | none => g
/-- a handler lets nothing out, keeps no error -/
def Fl.fin (v : Option Nat) : Fl → Fl
  | .nx g => if noeG (clr1 v g) then .nx (clr1 v g) else .bad
  | .bk g => if noeG (clr1 v g) then .bk (clr1 v g) else .bad
  | .ct g => if noeG (clr1 v g) then .ct (clr1 v g) else .bad
  | .rt t g => if t.noe && noeG (clr1 v g) then .rt t (clr1 v g) else .bad
  | .exc _ _ _ => .bad
  | .bad => .bad
def Rs.upd {α : Type} (f : Env → Env) : Rs α → Rs α
  | .ok a g => .ok a (f g)
  | .exc c fs g => .exc c fs (f g)
  | .bad => .bad

/-- a comprehension's turns -/
def compL (put : T → Env → Option Env) (own : List Nat) (f : Env → Rs (Option T)) : List T → List T → Env → Rs (List T)
  | [], acc, g => .ok acc g
  | t :: ts, acc, g => match put t g with
    | none => .bad
    | some g1 => match f g1 with
      | .ok none g2 => compL put own f ts acc (wipeE g2 own)
      | .ok (some y) g2 => if acc.length < sizeLine then compL put own f ts (acc ++ [y]) (wipeE g2 own) else .bad
      | _ => .bad
def loopL (put : T → Env → Option Env) (f : Env → Fl) : List T → Env → Fl
  | [], g => .nx g
  | t :: ts, g => match put t g with
    | none => .bad
    | some g1 => match f g1 with
      | .nx g2 => loopL put f ts g2
      | .ct g2 => loopL put f ts g2
      | .bk g2 => .nx g2
      | r => r
def whlN (c : Env → Rs T) (f : Env → Fl) : Nat → Env → Fl
  | 0, _ => .bad
  | n + 1, g => match c g with
    | .ok (.bl false) g1 => .nx g1
    | .ok (.bl true) g1 => match f g1 with
      | .nx g2 => whlN c f n g2
      | .ct g2 => whlN c f n g2
      | .bk g2 => .nx g2
      | r => r
    | .exc k fs g1 => .exc k fs g1
    | _ => .bad
def rngT : List T → Option (List T)
  | [.int j] => if -(2 ^ 62) ≤ j ∧ j < 2 ^ 62 then some ((List.range j.toNat).map fun (k : Nat) => .int (0 + (k : Int))) else none
  | [.int i, .int j] => if (-(2 ^ 62) ≤ i ∧ i < 2 ^ 62) ∧ -(2 ^ 62) ≤ j ∧ j < 2 ^ 62 then some ((List.range (j - i).toNat).map fun (k : Nat) => .int (i + (k : Int))) else none
  | _ => none

/-- a range by steps -/
def rng3T : List T → Option (List T)
  | [.int i, .int j, .int c] => if c ≠ 0 ∧ c.natAbs < 1073741824 ∧ Builtin.Range.small i j c = true ∧ 0 ≤ Builtin.Range.rangeSize i j c then some ((List.range (Builtin.Range.rangeSize i j c).toNat).map fun (k : Nat) => .int (i + (k : Nat) * c)) else none
  | _ => none
/-- a range from its end -/
def revT : List T → Option (List T)
  | [.int j] => if -(2 ^ 62) ≤ j ∧ j < 2 ^ 62 then some ((List.range (j - 0).toNat).map fun (k : Nat) => .int ((0 + (((j - 0).toNat : Nat) : Int) - 1) + (k : Nat) * (-1))) else none
  | [.int i, .int j] => if (-(2 ^ 62) ≤ i ∧ i < 2 ^ 62) ∧ -(2 ^ 62) ≤ j ∧ j < 2 ^ 62 then some ((List.range (j - i).toNat).map fun (k : Nat) => .int ((i + (((j - i).toNat : Nat) : Int) - 1) + (k : Nat) * (-1))) else none
  | _ => none

def isLst : Option T → Bool
  | some (.lst _ _) => true
  | _ => false
/-- a list in a tree, a number in a tree -/
def lstO : Option T → Option (List T)
  | some (.lst _ xs) => some xs
  | _ => none
def intO : Option T → Option Int
  | some (.int a) => some a
  | _ => none
/-- an item of a list's child, at a place that another child tells; a child's length -/
def pk2L (o : Option T) (k c : Nat) : Option Int := (lstO o).bind fun xs => (lstO xs[k]?).bind fun ys => (intO xs[c]?).bind fun i => intO (L2.atI ys i)
def pklL (o : Option T) (k : Nat) : Option Int := (lstO o).bind fun xs => (lstO xs[k]?).map fun ys => (ys.length : Int)
def pkiL (o : Option T) (k : Nat) : Option Int := (lstO o).bind fun xs => intO xs[k]?
abbrev Fns := Nat → List T → Fr
/-- an operator at its operands -/
def opEnd (o : Op) (ods : List Od) (g : Env) : Rs T := match getL g ods with
  | none => .bad
  | some ts => match opS o (ts.map T.fk) with
    | some t => .ok t (fkV g ods)
    | none => .bad
mutual
def ev (M : Fns) : E → Env → Rs T
  | .k t, g => .ok t g
  | .var i, g => match g.getD i none with
    | some t => .ok t.fz (g.set i (some t.fz))
    | none => .bad
  | .mv i, g => match g.getD i none with
    | some t => .ok t (g.set i none)
    | none => .bad
  | .mvi v i, g => match g.getD v none with
    | some (.lst true xs) => match xs[i]? with
      | some t => .ok t (g.set v none)
      | none => .bad
    | _ => .bad
  | .op o es, g => (evO M es g).bind fun ods g => opEnd o ods g
  | .slv v lo hi, g => match g.getD v none with
    | none => .bad
    | some _ => (ev M lo g).bind fun a g => match a with
      | .int i => (ev M hi g).bind fun b g => match b with
        | .int j => opEnd (.slice true true) [.v v, .x (.int i), .x (.int j)] g
        | _ => .bad
      | _ => .bad
  | .mtB o v b, g => if isLst (g.getD v none) = true then (ev M b g).bind fun y g => opEnd o [.v v, .x y] g else .bad
  | .pk2 v k c, g => (match pk2L (g.getD v none) k c with
    | some a => .ok (.int a) g
    | none => .bad)
  | .pkl v k, g => (match pklL (g.getD v none) k with
    | some a => .ok (.int a) g
    | none => .bad)
  | .pki v k, g => (match pkiL (g.getD v none) k with
    | some a => .ok (.int a) g
    | none => .bad)
  | .hld i e, g => match ev M e (holdG i g) with
    | .ok t g1 => (match g1.getD i none with
      | some u => if (t.deep && u.deep) = true then .ok t (g.set i (some u)) else .bad
      | none => .bad)
    | .exc c fs g1 => (match g1.getD i none with
      | some u => if (T.deepL fs && u.deep) = true then .exc c fs (g.set i (some u)) else .bad
      | none => .bad)
    | .bad => .bad
  | .lst es, g => (evO M es g).bind fun ods g => match tmps ods with
    | some ts => if ts.length ≤ sizeLine then .ok (.lst true ts) g else .bad
    | none => .bad
  | .tup es, g => (evO M es g).bind fun ods g => match tmps ods with
    | some ts => if ts.length ≤ sizeLine then .ok (.tup ts) g else .bad
    | none => .bad
  | .and a b, g => (ev M a g).bind fun t g => match t with
    | .bl true => ev M b g
    | .bl false => .ok (.bl false) g
    | _ => .bad
  | .or a b, g => (ev M a g).bind fun t g => match t with
    | .bl true => .ok (.bl true) g
    | .bl false => ev M b g
    | _ => .bad
  | .not a, g => (ev M a g).bind fun t g => match t with
    | .bl b => .ok (.bl (!b)) g
    | _ => .bad
  | .ite c a b, g => (ev M c g).bind fun t g => match t with
    | .bl true => ev M a g
    | .bl false => ev M b g
    | _ => .bad
  | .chain o p a b c, g => (ev M a g).bind fun x g => (ev M b g).bind fun y g => match opS o [x, y] with
    | some (.bl true) => (ev M c g).bind fun z g => match opS p [y, z] with
      | some t => .ok t g
      | none => .bad
    | some (.bl false) => .ok (.bl false) g
    | _ => .bad
  | .callB f es, g => (evO M es g).bind fun ods g => match getL g ods with
    | none => .bad
    | some ts => match M f (T.fzL ts) with
      | .ok t _ => if t.deep then .ok t g else .bad
      | .exc c fs _ => if T.deepL fs then .exc c fs g else .bad
      | .bad => .bad
  | .callF f es, g => match evO M es (fzG g) with
    | .ok ods g1 => (match getL g1 ods with
      | none => .bad
      | some ts => match M f (T.fzL ts) with
        | .ok t _ => if t.deep then .ok t g else .bad
        | .exc c fs _ => if T.deepL fs then .exc c fs g else .bad
        | .bad => .bad)
    | _ => .bad
  | .callK f _ perm dfl es, g => (evO M es g).bind fun ods g => match getL g ods with
    | none => .bad
    | some ts => match M f (T.fzL (perm.map fun i => (ts ++ dfl).getD i .non)) with
      | .ok t _ => if perm.all (fun i => decide (i < (ts ++ dfl).length)) && t.deep then .ok t g else .bad
      | .exc c fs _ => if perm.all (fun i => decide (i < (ts ++ dfl).length)) && T.deepL fs then .exc c fs g else .bad
      | .bad => .bad
  | .callI f es, g => (evO M es g).bind fun ods g => match ioArgs g ods with
    | none => .bad
    | some ts => if (vars ods).Nodup then match M f ts with
      | .ok t ios => .ok t (putIo (clrV g ods) ods ios)
      | .exc c fs ios => .exc c fs (putIo (clrV g ods) ods ios)
      | .bad => .bad
      else .bad
  | .comp tg it cond elt, g => (itS M it g).bind fun p g => if inBack p.2 tg.slots then .bad else
      (compL (fun t g => tg.put t [] g) tg.slots (fun g => (ev M cond g).bind fun b g => match b with
          | .bl true => (ev M elt g).bind fun y g => .ok (some y) g
          | .bl false => .ok none g
          | _ => .bad) p.1 [] (wipeE g tg.slots)).bind fun ys g1 => .ok (.lst true ys) (unIt p.2 (backE g g1 tg.slots))
/-- what is walked; a list that is walked in its name's slot is taken out meanwhile -/
def itS (M : Fns) : It → Env → Rs (List T × Option (Nat × T))
  | .e a, g => (ev M a g).bind fun t g => match seqOf t.fk with
    | some xs => .ok (xs, none) g
    | none => .bad
  | .v i, g => match (g.getD i none).map T.fk with
    | some t => match seqOf t with
      | some xs => .ok (xs, some (i, t)) (g.set i none)
      | none => .bad
    | none => .bad
  | .rng es, g => (evO M es g).bind fun ods g => match getL g ods with
    | some ts => match rngT ts with
      | some xs => .ok (xs, none) g
      | none => .bad
    | none => .bad
  | .enm a, g => (ev M a g).bind fun t g => match lstOf t.fz with
    | some xs => .ok (enmT xs, none) g
    | none => .bad
  | .rev a, g => (ev M a g).bind fun t g => match lstOf t.fz with
    | some xs => .ok (xs.reverse, none) g
    | none => .bad
  | .zip es, g => (evO M es g).bind fun ods g => match tmps ods with
    | some ts => match zipS (T.fzL ts) with
      | some xs => .ok (xs, none) g
      | none => .bad
    | none => .bad
  | .revR es, g => (evO M es g).bind fun ods g => match getL g ods with
    | some ts => match revT ts with
      | some xs => .ok (xs, none) g
      | none => .bad
    | none => .bad
  | .rng3 es, g => (evO M es g).bind fun ods g => match getL g ods with
    | some ts => match rng3T ts with
      | some xs => .ok (xs, none) g
      | none => .bad
    | none => .bad
def evO (M : Fns) : Es → Env → Rs (List Od)
  | .nil, g => .ok [] g
  | .e a r, g => (ev M a g).bind fun t g => (evO M r g).bind fun ods g => .ok (.x t :: ods) g
  | .v i r, g => match g.getD i none with
    | some _ => (evO M r g).bind fun ods g => .ok (.v i :: ods) g
    | none => .bad
end
/-- a number in a list that a name holds -/
def getI (v : Nat) (k : Int) (g : Env) : Option Int := match g.getD v none with
  | some (.lst _ xs) => match L2.atI xs k with
    | some (.int a) => some a
    | _ => none
  | _ => none
def augEnd (v : Nat) (o : Op) (k a : Int) (t : T) (g : Env) : Fl := match t with
  | .int b => match opS o [.int a, .int b] with
    | some u => match g.getD v none with
      | some (.lst true xs) => match L2.ixN xs.length k with
        | some j => .nx (g.set v (some (.lst true (xs.set j u))))
        | none => .bad
      | _ => .bad
    | none => .bad
  | _ => .bad
/-- nothing of a list in it -/
def T.lf : T → Bool
  | .non => true
  | .bl _ => true
  | .int _ => true
  | .str _ => true
  | .scr _ => true
  | .dic _ => true
  | _ => false
def lfG : Env → Bool
  | [] => true
  | none :: g => lfG g
  | some t :: g => t.lf && lfG g
/-- how often a while may turn -/
def fuelW : Nat := 100000000
mutual
def ex (M : Fns) : Sm → List Nat → Env → Fl
  | .asg i e, P, g => match ev M e g with
    | .ok t g => match put1 i t P g with
      | some g => .nx g
      | none => .bad
    | .exc c fs g => .exc c fs g
    | .bad => .bad
  | .par i j es, P, g => match evO M es g with
    | .ok ods g => match tmps ods with
      | some [t, u] => match (put1 i t P g).bind fun g => put1 j u P g with
        | some g => .nx g
        | none => .bad
      | _ => .bad
    | .exc c fs g => .exc c fs g
    | .bad => .bad
  | .unp is e, P, g => match ev M e g with
    | .ok t g => match Tg.put (.many is) t P g with
      | some g => .nx g
      | none => .bad
    | .exc c fs g => .exc c fs g
    | .bad => .bad
  | .seti v i e, _, g => match ev M e g with
    | .ok t g => match g.getD v none with
      | some (.lst _ _) => match ev M i g with
        | .ok (.int k) g => match g.getD v none with
          | some (.lst true xs) => match L2.ixN xs.length k with
            | some j => .nx (g.set v (some (.lst true (xs.set j t))))
            | none => .bad
          | _ => .bad
        | .exc c fs g => .exc c fs g
        | _ => .bad
      | _ => .bad
    | .exc c fs g => .exc c fs g
    | .bad => .bad
  | .augi v i o e, _, g => if isLst (g.getD v none) = true then match ev M i g with
    | .ok (.int k) g => match getI v k g with
      | some a => match ev M e g with
        | .ok t g => augEnd v o k a t g
        | .exc c fs g => .exc c fs g
        | .bad => .bad
      | none => .bad
    | .exc c fs g => .exc c fs g
    | _ => .bad
    else .bad
  | .app v e, _, g => match g.getD v none with
    | some (.lst _ _) => match ev M e g with
      | .ok t g => match g.getD v none with
        | some (.lst true xs) => if xs.length < sizeLine then .nx (g.set v (some (.lst true (xs ++ [t])))) else .bad
        | _ => .bad
      | .exc c fs g => .exc c fs g
      | .bad => .bad
    | _ => .bad
  | .aug v o e, P, g => match g.getD v none with
    | some (.int a) => match ev M e g with
      | .ok (.int b) g => match opS o [.int a, .int b] with
        | some t => match put1 v t P g with
          | some g => .nx g
          | none => .bad
        | none => .bad
      | .exc c fs g => .exc c fs g
      | _ => .bad
    | _ => .bad
  | .ex e, _, g => match ev M e g with
    | .ok _ g => .nx g
    | .exc c fs g => .exc c fs g
    | .bad => .bad
  | .ret e, _, g => match ev M e g with
    | .ok t g => .rt t g
    | .exc c fs g => .exc c fs g
    | .bad => .bad
  | .retN, _, g => .rt .non g
  | .hldL i s, P, g => match g.getD i none with
    | some t => (match ex M s (i :: P) (g.set i (some t.fz)) with
      | .nx g1 => if lfG (g1.set i none) = true then .nx (g1.set i (some t)) else .bad
      | _ => .bad)
    | none => .bad
  | .ite c a b, P, g => match ev M c g with
    | .ok (.bl true) g => exs M a P g
    | .ok (.bl false) g => exs M b P g
    | .exc c fs g => .exc c fs g
    | _ => .bad
  | .loop tg it body, P, g => match itS M it g with
    | .ok p g => (loopL (fun t g => tg.put t (pinIt p.2 P) g) (exs M body (pinIt p.2 P)) p.1 g).upd (unIt p.2)
    | .exc c fs g => .exc c fs g
    | .bad => .bad
  | .whl c body, P, g => whlN (ev M c) (exs M body P) fuelW g
  | .rais c es, _, g => match evO M es g with
    | .ok ods g => match tmps ods with
      | some ts => if (flds c).length = ts.length ∧ c ≠ 9 then .exc c (T.fzL ts) g else .bad
      | none => .bad
    | .exc c fs g => .exc c fs g
    | .bad => .bad
  | .tryA body c v h, P, g => match exs M body P g with
    | .exc k fs g => if 16 ≤ k then .bad else if isSub k c then (match put1 v (.exc k fs) P g with
        | some g => (exs M h P g).fin (some v)
        | none => .bad) else .exc k fs g
    | r => r
  | .tryM body cs h, P, g => match exs M body P g with
    | .exc k fs g => if 16 ≤ k then .bad else if cs.any (isSub k) then (exs M h P g).fin none else .exc k fs g
    | r => r
  | .brk, _, g => .bk g
  | .cnt, _, g => .ct g
  | .pas, _, g => .nx g
def exs (M : Fns) : Sms → List Nat → Env → Fl
  | .nil, _, g => .nx g
  | .cons s r, P, g => match ex M s P g with
    | .nx g => exs M r P g
    | r => r
end

/-- a def: how many names, how many parameters, which of them are changed in place, the body -/
structure Def where
  n : Nat
  io : List Bool
  body : Sms
  prim : Option (Nat → List T → Fr) := none
def mask : List Bool → Env → Env
  | b :: bs, o :: g => (if b then o else none) :: mask bs g
  | _ :: bs, [] => none :: mask bs []
  | [], _ => []
def pinsOf (i : Nat) : List Bool → List Nat
  | [] => []
  | b :: bs => if b then i :: pinsOf (i + 1) bs else pinsOf (i + 1) bs
@[irreducible] def runDef (M : Fns) (d : Def) (ts : List T) : Fr :=
  if ts.length = d.io.length then match exs M d.body (pinsOf 0 d.io) (ts.map some ++ List.replicate (d.n - ts.length) none) with
    | .rt t g => .ok t (mask d.io g)
    | .nx g => .ok .non (mask d.io g)
    | .exc c fs g => .exc c fs (mask d.io g)
    | _ => .bad
  else .bad
/-- the defs of a text, at most n calls deep -/
def Mn (ds : List Def) : Nat → Fns
  | 0, _, _ => .bad
  | n + 1, f, ts => match ds[f]? with
    | some d => match d.prim with
      | some m => m (n + 1) ts
      | none => runDef (Mn ds n) d ts
    | none => .bad
end Kv

/-! Kv 2: what a tree says of the abstract heap; frames. -/
namespace Kv
open PySem L2

/-- the ground: the written part; the exception that is handled (its address, class, own dict) -/
structure RC where
  K : PySem.W.Frag
  cad : Nat → Addr
  ex : Option (Addr × Nat × Addr)
def ScrOk (K : PySem.W.Frag) (H : Hp) (a : Addr) (vs : List V) : Prop := (∃ o, H a = some (.frz o (.lst vs))) ∨ SqL K (fun _ => none) a vs
theorem ScrOk.sq {K : PySem.W.Frag} {H : Hp} {a : Addr} {vs : List V} (h : ScrOk K H a vs) : SqL K H a vs := by
  rcases h with ⟨o, h⟩ | h
  · exact .inl (.inr ⟨o, h⟩)
  · rcases h with (h | ⟨o, h⟩) | h
    · cases h
    · cases h
    · exact .inr h
def FldsAt (ns : List Str) (vs : List V) (ys : List (Str × V)) : Prop := ∀ (i : Nat) (f : Str), ns[i]? = some f → ∃ v, vs[i]? = some v ∧ ys.lookup f = some v
def Sc.v : Sc → V
  | .i n => .int n
  | .s z => .str z
mutual
def Rp (C : RC) (S : Addr → Prop) (H : Hp) : T → V → List Addr → Prop
  | .non, x, F => x = .non ∧ F = []
  | .bl b, x, F => x = .bl b ∧ F = []
  | .int i, x, F => x = .int i ∧ F = []
  | .str s, x, F => x = .str s ∧ F = []
  | .scr ns, x, F => F = [] ∧ ∃ a, x = .ref a ∧ ScrOk C.K H a (ns.map V.int)
  | .dic kvs, x, F => F = [] ∧ ∃ a m, x = .ref a ∧ H a = some (.dK m) ∧ ∀ k : Str, valV m (.inr k) = (dlk kvs k).map Sc.v
  | .lst o xs, x, F => ∃ a vs F', x = .ref a ∧ H a = some (.lst vs) ∧ RpL C S H xs vs F' ∧ (if o = true then ¬ S a ∧ F = a :: F' else S a ∧ F = F')
  | .tup xs, x, F => ∃ a vs, x = .ref a ∧ H a = some (.tup vs) ∧ RpL C S H xs vs F
  | .exc c fs, x, F => F = [] ∧ ∃ a d ys vs, C.ex = some (a, c, d) ∧ x = .ref a ∧ H d = some (.xd ys) ∧ RpL C S H fs vs [] ∧ FldsAt (flds c) vs ys
def RpL (C : RC) (S : Addr → Prop) (H : Hp) : List T → List V → List Addr → Prop
  | [], vs, F => vs = [] ∧ F = []
  | t :: ts, vs, F => ∃ v ws F1 F2, vs = v :: ws ∧ F = F1 ++ F2 ∧ Rp C S H t v F1 ∧ RpL C S H ts ws F2
end
def RpG (C : RC) (S : Addr → Prop) (H : Hp) : Env → List (Option V) → List Addr → Prop
  | [], σ, F => σ = [] ∧ F = []
  | none :: g, σ, F => ∃ y τ, σ = y :: τ ∧ RpG C S H g τ F
  | some t :: g, σ, F => ∃ x τ F1 F2, σ = some x :: τ ∧ F = F1 ++ F2 ∧ Rp C S H t x F1 ∧ RpG C S H g τ F2

variable {C : RC} {S S' : Addr → Prop} {H H' : Hp}
/-- what must stay for a tree with the own places F -/
def Stays (S : Addr → Prop) (F : List Addr) (H H' : Hp) : Prop := ∀ b o, H b = some o → (S b ∨ b ∈ F ∨ ∀ ys, o ≠ .lst ys) → H' b = some o
theorem Stays.mono {F F' : List Addr} (h : Stays S F H H') (k : ∀ b ∈ F', b ∈ F) : Stays S F' H H' := fun b o e z => h b o e (by
  rcases z with z | z | z
  · exact .inl z
  · exact .inr (.inl (k b z))
  · exact .inr (.inr z))
theorem frz_ne {o : Obj} {u : HO} : ∀ ys, HO.frz o u ≠ .lst ys := fun _ h => nomatch h
theorem dK_ne {m : List (Key × V)} : ∀ ys, HO.dK m ≠ .lst ys := fun _ h => nomatch h
theorem tup_ne {xs : List V} : ∀ ys, HO.tup xs ≠ .lst ys := fun _ h => nomatch h
theorem xd_ne {xs : List (Str × V)} : ∀ ys, HO.xd xs ≠ .lst ys := fun _ h => nomatch h
mutual
theorem Rp.stay (hS : ∀ a, S a → S' a) : ∀ (t : T) (x : V) (F : List Addr), Stays S F H H' → (∀ b ∈ F, ¬ S' b) → Rp C S H t x F → Rp C S' H' t x F
  | .non, x, F, _, _, h => h
  | .bl b, x, F, _, _, h => h
  | .int i, x, F, _, _, h => h
  | .str s, x, F, _, _, h => h
  | .dic kvs, x, F, hk, _, ⟨e, a, m, ex, h, l⟩ => ⟨e, a, m, ex, hk _ _ h (.inr (.inr dK_ne)), l⟩
  | .scr ns, x, F, hk, _, ⟨e, a, ex, h⟩ => by
    refine ⟨e, a, ex, ?_⟩
    rcases h with ⟨o, h⟩ | h
    · exact .inl ⟨o, hk _ _ h (.inr (.inr frz_ne))⟩
    · exact .inr h
  | .lst true xs, x, F, hk, hF, ⟨a, vs, F', ex, ha, hr, hs, e⟩ => by
    subst e
    exact ⟨a, vs, F', ex, hk _ _ ha (.inr (.inl List.mem_cons_self)), RpL.stay hS xs vs F' (hk.mono fun b hb => List.mem_cons_of_mem _ hb) (fun b hb => hF b (List.mem_cons_of_mem _ hb)) hr, hF a List.mem_cons_self, rfl⟩
  | .lst false xs, x, F, hk, hF, ⟨a, vs, F', ex, ha, hr, hs, e⟩ => by
    subst e
    exact ⟨a, vs, F, ex, hk _ _ ha (.inl hs), RpL.stay hS xs vs F hk hF hr, hS a hs, rfl⟩
  | .tup xs, x, F, hk, hF, ⟨a, vs, ex, ha, hr⟩ => ⟨a, vs, ex, hk _ _ ha (.inr (.inr tup_ne)), RpL.stay hS xs vs F hk hF hr⟩
  | .exc c fs, x, F, hk, hF, ⟨e, a, d, ys, vs, e1, ex, hd, hr, hf⟩ => ⟨e, a, d, ys, vs, e1, ex, hk _ _ hd (.inr (.inr xd_ne)), RpL.stay hS fs vs [] (hk.mono fun b hb => nomatch hb) (fun b hb => nomatch hb) hr, hf⟩
theorem RpL.stay (hS : ∀ a, S a → S' a) : ∀ (ts : List T) (vs : List V) (F : List Addr), Stays S F H H' → (∀ b ∈ F, ¬ S' b) → RpL C S H ts vs F → RpL C S' H' ts vs F
  | [], vs, F, _, _, h => h
  | t :: ts, vs, F, hk, hF, ⟨v, ws, F1, F2, e, eF, h1, h2⟩ => by
    subst eF
    exact ⟨v, ws, F1, F2, e, rfl, Rp.stay hS t v F1 (hk.mono fun b hb => List.mem_append_left _ hb) (fun b hb => hF b (List.mem_append_left _ hb)) h1,
      RpL.stay hS ts ws F2 (hk.mono fun b hb => List.mem_append_right _ hb) (fun b hb => hF b (List.mem_append_right _ hb)) h2⟩
end
theorem RpG.stay (hS : ∀ a, S a → S' a) : ∀ (g : Env) (σ : List (Option V)) (F : List Addr), Stays S F H H' → (∀ b ∈ F, ¬ S' b) → RpG C S H g σ F → RpG C S' H' g σ F
  | [], σ, F, _, _, h => h
  | none :: g, σ, F, hk, hF, ⟨y, τ, e, h⟩ => ⟨y, τ, e, RpG.stay hS g τ F hk hF h⟩
  | some t :: g, σ, F, hk, hF, ⟨v, ws, F1, F2, e, eF, h1, h2⟩ => by
    subst eF
    exact ⟨v, ws, F1, F2, e, rfl, Rp.stay hS t v F1 (hk.mono fun b hb => List.mem_append_left _ hb) (fun b hb => hF b (List.mem_append_left _ hb)) h1,
      RpG.stay hS g ws F2 (hk.mono fun b hb => List.mem_append_right _ hb) (fun b hb => hF b (List.mem_append_right _ hb)) h2⟩
mutual
theorem Rp.own : ∀ (t : T) (x : V) (F : List Addr), Rp C S H t x F → ∀ b ∈ F, ¬ S b ∧ ∃ ys, H b = some (.lst ys)
  | .non, x, F, h, b, hb => by rw [h.2] at hb; cases hb
  | .bl _, x, F, h, b, hb => by rw [h.2] at hb; cases hb
  | .int _, x, F, h, b, hb => by rw [h.2] at hb; cases hb
  | .str _, x, F, h, b, hb => by rw [h.2] at hb; cases hb
  | .scr _, x, F, h, b, hb => by rw [h.1] at hb; cases hb
  | .dic _, x, F, h, b, hb => by rw [h.1] at hb; cases hb
  | .lst true xs, x, F, ⟨a, vs, F', ex, ha, hr, hs, e⟩, b, hb => by
    subst e
    rcases List.mem_cons.mp hb with e | hb
    · subst e; exact ⟨hs, vs, ha⟩
    · exact RpL.own xs vs F' hr b hb
  | .lst false xs, x, F, ⟨a, vs, F', ex, ha, hr, hs, e⟩, b, hb => by
    subst e
    exact RpL.own xs vs F hr b hb
  | .tup xs, x, F, ⟨a, vs, ex, ha, hr⟩, b, hb => RpL.own xs vs F hr b hb
  | .exc _ _, x, F, h, b, hb => by rw [h.1] at hb; cases hb
theorem RpL.own : ∀ (ts : List T) (vs : List V) (F : List Addr), RpL C S H ts vs F → ∀ b ∈ F, ¬ S b ∧ ∃ ys, H b = some (.lst ys)
  | [], vs, F, h, b, hb => by rw [h.2] at hb; cases hb
  | t :: ts, vs, F, ⟨v, ws, F1, F2, e, eF, h1, h2⟩, b, hb => by
    subst eF
    rcases List.mem_append.mp hb with hb | hb
    · exact Rp.own t v F1 h1 b hb
    · exact RpL.own ts ws F2 h2 b hb
end
theorem RpG.own : ∀ (g : Env) (σ : List (Option V)) (F : List Addr), RpG C S H g σ F → ∀ b ∈ F, ¬ S b ∧ ∃ ys, H b = some (.lst ys)
  | [], σ, F, h, b, hb => by rw [h.2] at hb; cases hb
  | none :: g, σ, F, ⟨y, τ, e, h⟩, b, hb => RpG.own g τ F h b hb
  | some t :: g, σ, F, ⟨v, ws, F1, F2, e, eF, h1, h2⟩, b, hb => by
    subst eF
    rcases List.mem_append.mp hb with hb | hb
    · exact Rp.own t v F1 h1 b hb
    · exact RpG.own g ws F2 h2 b hb
theorem RpL.length : ∀ {ts : List T} {vs : List V} {F : List Addr}, RpL C S H ts vs F → vs.length = ts.length
  | [], vs, F, h => by rw [h.1] <;> rfl
  | t :: ts, vs, F, ⟨v, ws, F1, F2, e, eF, h1, h2⟩ => by rw [e, List.length_cons, List.length_cons, RpL.length h2]
theorem RpG.length : ∀ {g : Env} {σ : List (Option V)} {F : List Addr}, RpG C S H g σ F → σ.length = g.length
  | [], σ, F, h => by rw [h.1] <;> rfl
  | none :: g, σ, F, ⟨y, τ, e, h⟩ => by rw [e, List.length_cons, List.length_cons, RpG.length h]
  | some t :: g, σ, F, ⟨v, ws, F1, F2, e, eF, h1, h2⟩ => by rw [e, List.length_cons, List.length_cons, RpG.length h2]
/-- S and the places F -/
def SF (S : Addr → Prop) (F : List Addr) : Addr → Prop := fun a => S a ∨ a ∈ F
mutual
theorem Rp.froz (hS : ∀ a, S a → S' a) : ∀ (t : T) (x : V) (F : List Addr), (∀ b ∈ F, S' b) → Rp C S H t x F → Rp C S' H t.fz x []
  | .non, x, F, _, h => ⟨h.1, rfl⟩
  | .bl b, x, F, _, h => ⟨h.1, rfl⟩
  | .int i, x, F, _, h => ⟨h.1, rfl⟩
  | .str s, x, F, _, h => ⟨h.1, rfl⟩
  | .scr ns, x, F, _, h => ⟨rfl, h.2⟩
  | .dic ns, x, F, _, h => ⟨rfl, h.2⟩
  | .lst true xs, x, F, hF, ⟨a, vs, F', ex, ha, hr, hs, e⟩ => by
    subst e
    exact ⟨a, vs, [], ex, ha, RpL.froz hS xs vs F' (fun b hb => hF b (List.mem_cons_of_mem _ hb)) hr, hF a List.mem_cons_self, rfl⟩
  | .lst false xs, x, F, hF, ⟨a, vs, F', ex, ha, hr, hs, e⟩ => by
    subst e
    exact ⟨a, vs, [], ex, ha, RpL.froz hS xs vs F hF hr, hS a hs, rfl⟩
  | .tup xs, x, F, hF, ⟨a, vs, ex, ha, hr⟩ => ⟨a, vs, ex, ha, RpL.froz hS xs vs F hF hr⟩
  | .exc c fs, x, F, hF, ⟨e, a, d, ys, vs, e1, ex, hd, hr, hf⟩ => ⟨rfl, a, d, ys, vs, e1, ex, hd, RpL.stay hS fs vs [] (fun b o q _ => q) (fun b hb => nomatch hb) hr, hf⟩
theorem RpL.froz (hS : ∀ a, S a → S' a) : ∀ (ts : List T) (vs : List V) (F : List Addr), (∀ b ∈ F, S' b) → RpL C S H ts vs F → RpL C S' H (T.fzL ts) vs []
  | [], vs, F, _, h => ⟨h.1, rfl⟩
  | t :: ts, vs, F, hF, ⟨v, ws, F1, F2, e, eF, h1, h2⟩ => by
    subst eF
    exact ⟨v, ws, [], [], e, rfl, Rp.froz hS t v F1 (fun b hb => hF b (List.mem_append_left _ hb)) h1, RpL.froz hS ts ws F2 (fun b hb => hF b (List.mem_append_right _ hb)) h2⟩
end
/-- the children of a tree frozen: its root's place alone is left -/
theorem Rp.fk {t : T} {x : V} {F : List Addr} (nd : F.Nodup) (h : Rp C S H t x F) : ∃ F1, (∀ b ∈ F1, b ∈ F) ∧ F1.Nodup ∧ Rp C (fun a => S a ∨ (a ∈ F ∧ a ∉ F1)) H t.fk x F1 := by
  have hs : ∀ (F1 : List Addr) (a : Addr), S a → S a ∨ (a ∈ F ∧ a ∉ F1) := fun _ a h => .inl h
  have h0 : ∀ b ∈ ([] : List Addr), b ∈ F := fun b hb => nomatch hb
  cases t with
  | non =>
    refine ⟨[], h0, List.nodup_nil, ?_⟩
    exact ⟨h.1, rfl⟩
  | bl b =>
    refine ⟨[], h0, List.nodup_nil, ?_⟩
    exact ⟨h.1, rfl⟩
  | int i =>
    refine ⟨[], h0, List.nodup_nil, ?_⟩
    exact ⟨h.1, rfl⟩
  | str s =>
    refine ⟨[], h0, List.nodup_nil, ?_⟩
    exact ⟨h.1, rfl⟩
  | scr ns =>
    refine ⟨[], h0, List.nodup_nil, ?_⟩
    exact ⟨rfl, h.2⟩
  | dic ns =>
    refine ⟨[], h0, List.nodup_nil, ?_⟩
    exact ⟨rfl, h.2⟩
  | exc c fs =>
    obtain ⟨e, a, d, ys, vs, e1, ex, hd, hr, hf⟩ := h
    refine ⟨[], h0, List.nodup_nil, ?_⟩
    exact ⟨rfl, a, d, ys, vs, e1, ex, hd, RpL.stay (hs []) fs vs [] (fun b o q _ => q) (fun b hb => nomatch hb) hr, hf⟩
  | tup xs =>
    obtain ⟨a, vs, ex, ha, hr⟩ := h
    refine ⟨[], h0, List.nodup_nil, ?_⟩
    exact ⟨a, vs, ex, ha, RpL.froz (hs []) xs vs F (fun b hb => .inr ⟨hb, fun z => nomatch z⟩) hr⟩
  | lst o xs =>
    obtain ⟨a, vs, F', ex, ha, hr, hh⟩ := h
    cases o with
    | true =>
      obtain ⟨na, e⟩ := hh
      subst e
      obtain ⟨n1, n2⟩ := List.nodup_cons.mp nd
      have ne : ∀ b ∈ F', b ∉ [a] := fun b hb z => by
        have e : b = a := List.mem_singleton.mp z
        exact n1 (e ▸ hb)
      refine ⟨[a], fun b hb => by rw [List.mem_singleton.mp hb]; exact List.mem_cons_self, List.pairwise_singleton _ a, ?_⟩
      refine ⟨a, vs, [], ex, ha, RpL.froz (hs [a]) xs vs F' (fun b hb => .inr ⟨List.mem_cons_of_mem _ hb, ne b hb⟩) hr, fun z => ?_, rfl⟩
      rcases z with z | ⟨_, z⟩
      · exact na z
      · exact z (List.mem_singleton.mpr rfl)
    | false =>
      obtain ⟨sa, e⟩ := hh
      subst e
      refine ⟨[], h0, List.nodup_nil, ?_⟩
      exact ⟨a, vs, [], ex, ha, RpL.froz (hs []) xs vs F (fun b hb => .inr ⟨hb, fun z => nomatch z⟩) hr, .inl sa, rfl⟩
/- a deep tree leans on its own places alone -/
mutual
theorem Rp.deep : ∀ (t : T) (x : V) (F : List Addr), t.deep = true → (∀ b ∈ F, ¬ S' b) → Rp C S H t x F → Rp C S' H t x F
  | .non, x, F, _, _, h => h
  | .bl b, x, F, _, _, h => h
  | .int i, x, F, _, _, h => h
  | .str s, x, F, _, _, h => h
  | .lst true xs, x, F, hd, hF, ⟨a, vs, F', ex, ha, hr, hs, e⟩ => by
    subst e
    have hd' : T.deepL xs = true := by simpa [T.deep] using hd
    exact ⟨a, vs, F', ex, ha, RpL.deep xs vs F' hd' (fun b hb => hF b (List.mem_cons_of_mem _ hb)) hr, hF a List.mem_cons_self, rfl⟩
  | .tup xs, x, F, hd, hF, ⟨a, vs, ex, ha, hr⟩ => ⟨a, vs, ex, ha, RpL.deep xs vs F (by simpa [T.deep] using hd) hF hr⟩
theorem RpL.deep : ∀ (ts : List T) (vs : List V) (F : List Addr), T.deepL ts = true → (∀ b ∈ F, ¬ S' b) → RpL C S H ts vs F → RpL C S' H ts vs F
  | [], vs, F, _, _, h => h
  | t :: ts, vs, F, hd, hF, ⟨v, ws, F1, F2, e, eF, h1, h2⟩ => by
    subst eF
    have hd' : t.deep = true ∧ T.deepL ts = true := by simpa [T.deepL] using hd
    exact ⟨v, ws, F1, F2, e, rfl, Rp.deep t v F1 hd'.1 (fun b hb => hF b (List.mem_append_left _ hb)) h1, RpL.deep ts ws F2 hd'.2 (fun b hb => hF b (List.mem_append_right _ hb)) h2⟩
end

/-! ### frames -/
/-- from S, H with the own places F to S', H' with the own places F' -/
structure Tr (S : Addr → Prop) (H : Hp) (F : List Addr) (S' : Addr → Prop) (H' : Hp) (F' : List Addr) : Prop where
  sub : ∀ a, S a → S' a
  keep : ∀ b o, H b = some o → b ∉ F → H' b = some o
  newS : ∀ b, S' b → S b ∨ b ∈ F ∨ H b = none
  newF : ∀ b ∈ F', b ∈ F ∨ H b = none
  dom : ∀ b, H' b = none → H b = none
theorem Tr.refl {F : List Addr} : Tr S H F S H F := ⟨fun _ h => h, fun _ _ h _ => h, fun _ h => .inl h, fun _ h => .inl h, fun _ h => h⟩
theorem Tr.trans {S2 : Addr → Prop} {H2 : Hp} {F F' F2 : List Addr} (a : Tr S H F S' H' F') (b : Tr S' H' F' S2 H2 F2) : Tr S H F S2 H2 F2 where
  sub := fun x h => b.sub x (a.sub x h)
  keep := fun x o h n => by
    refine b.keep x o (a.keep x o h n) fun z => ?_
    rcases a.newF x z with z | z
    · exact n z
    · rw [h] at z; cases z
  newS := fun x h => by
    rcases b.newS x h with h | h | h
    · exact a.newS x h
    · exact (a.newF x h).elim (fun z => .inr (.inl z)) fun z => .inr (.inr z)
    · exact .inr (.inr (a.dom x h))
  newF := fun x h => by
    rcases b.newF x h with h | h
    · exact a.newF x h
    · exact .inr (a.dom x h)
  dom := fun x h => a.dom x (b.dom x h)
theorem Tr.sub' {F F' F2 : List Addr} (a : Tr S H F S' H' F') (h : ∀ b ∈ F2, b ∈ F') : Tr S H F S' H' F2 := ⟨a.sub, a.keep, a.newS, fun b hb => a.newF b (h b hb), a.dom⟩
/-- with a part set aside -/
theorem Tr.aside {F F' F0 : List Addr} (a : Tr S H F S' H' F') : Tr S H (F ++ F0) S' H' (F' ++ F0) where
  sub := a.sub
  keep := fun b o h n => a.keep b o h fun z => n (List.mem_append_left _ z)
  newS := fun b h => (a.newS b h).imp id fun z => z.imp (fun z => List.mem_append_left _ z) id
  newF := fun b h => (List.mem_append.mp h).elim (fun z => (a.newF b z).imp (fun z => List.mem_append_left _ z) id) fun z => .inl (List.mem_append_right _ z)
  dom := a.dom
theorem Tr.more {F F' F0 : List Addr} (a : Tr S H F S' H' F') (k : ∀ b ∈ F, b ∈ F0) : Tr S H F0 S' H' F' where
  sub := a.sub
  keep := fun b o h n => a.keep b o h fun z => n (k b z)
  newS := fun b h => (a.newS b h).imp id fun z => z.imp (k b) id
  newF := fun b h => (a.newF b h).imp (k b) id
  dom := a.dom
/-- what is set aside stays -/
theorem Tr.stays {F F' F1 : List Addr} (a : Tr S H F S' H' F') (hF : ∀ b ∈ F, ¬ S b ∧ ∃ ys, H b = some (.lst ys)) (nd : ∀ b ∈ F1, b ∉ F) : Stays S F1 H H' := fun b o e z => by
  refine a.keep b o e fun hb => ?_
  rcases z with z | z | z
  · exact (hF b hb).1 z
  · exact nd b z hb
  · obtain ⟨ys, q⟩ := (hF b hb).2
    rw [e] at q
    exact z ys (Option.some.inj q)
theorem Tr.noS {F F' F1 : List Addr} (a : Tr S H F S' H' F') (nd : ∀ b ∈ F1, b ∉ F) (h1 : ∀ b ∈ F1, ¬ S b ∧ ∃ ys, H b = some (.lst ys)) : ∀ b ∈ F1, ¬ S' b := fun b hb z => by
  obtain ⟨n, ys, e⟩ := h1 b hb
  rcases a.newS b z with z | z | z
  · exact n z
  · exact nd b hb z
  · rw [e] at z; cases z
theorem Tr.noF {F F' F1 : List Addr} (a : Tr S H F S' H' F') (nd : ∀ b ∈ F1, b ∉ F) (h1 : ∀ b ∈ F1, ¬ S b ∧ ∃ ys, H b = some (.lst ys)) : ∀ b ∈ F1, b ∉ F' := fun b hb z => by
  obtain ⟨n, ys, e⟩ := h1 b hb
  rcases a.newF b z with z | z
  · exact nd b hb z
  · rw [e] at z; cases z
theorem Tr.rp {F F' F1 : List Addr} {t : T} {x : V} (a : Tr S H F S' H' F') (hF : ∀ b ∈ F, ¬ S b ∧ ∃ ys, H b = some (.lst ys)) (nd : ∀ b ∈ F1, b ∉ F) (h : Rp C S H t x F1) : Rp C S' H' t x F1 :=
  Rp.stay a.sub t x F1 (a.stays hF nd) (a.noS nd (Rp.own t x F1 h)) h
theorem Tr.rpL {F F' F1 : List Addr} {t : List T} {x : List V} (a : Tr S H F S' H' F') (hF : ∀ b ∈ F, ¬ S b ∧ ∃ ys, H b = some (.lst ys)) (nd : ∀ b ∈ F1, b ∉ F) (h : RpL C S H t x F1) : RpL C S' H' t x F1 :=
  RpL.stay a.sub t x F1 (a.stays hF nd) (a.noS nd (RpL.own t x F1 h)) h
/-- a state: the slots' trees over the heap -/
structure Good (C : RC) (S : Addr → Prop) (H : Hp) (g : Env) (σ : St) (F : List Addr) : Prop where
  rel : RpG C S H g σ F
  nd : F.Nodup
  sdom : ∀ a, S a → ∃ ys, H a = some (.lst ys)
theorem Good.own {g : Env} {σ : St} {F : List Addr} (G : Good C S H g σ F) : ∀ b ∈ F, ¬ S b ∧ ∃ ys, H b = some (.lst ys) := RpG.own g σ F G.rel
end Kv

/-! Kv 3: slots taken and put back; what a reading wants; operands. -/
namespace Kv
open PySem L2
variable {C : RC} {S S' : Addr → Prop} {H H' : Hp}

def SlotRel (C : RC) (S : Addr → Prop) (H : Hp) : Option T → Option V → List Addr → Prop
  | none, _, F => F = []
  | some t, y, F => ∃ x, y = some x ∧ Rp C S H t x F
theorem RpG.split : ∀ (g : Env) (σ : St) (F : List Addr) (i : Nat), RpG C S H g σ F → i < g.length →
    ∃ A Fi B, F = A ++ (Fi ++ B) ∧ SlotRel C S H (g.getD i none) (σ.getD i none) Fi ∧ ∀ (o : Option T) (y : Option V) (F2 : List Addr), SlotRel C S H o y F2 → RpG C S H (g.set i o) (σ.set i y) (A ++ (F2 ++ B))
  | [], _, _, _, _, hl => absurd hl (Nat.not_lt_zero _)
  | none :: g, σ, F, 0, ⟨y, τ, e, h⟩, _ => by
    subst e
    refine ⟨[], [], F, rfl, rfl, fun o z F2 hr => ?_⟩
    cases o with
    | none =>
      have : F2 = [] := hr
      subst this
      exact ⟨z, τ, rfl, h⟩
    | some t =>
      obtain ⟨x, e, r⟩ := hr
      exact ⟨x, τ, F2, F, by rw [e] <;> rfl, rfl, r, h⟩
  | some t :: g, σ, F, 0, ⟨x, τ, F1, F2, e, eF, h1, h2⟩, _ => by
    subst e
    refine ⟨[], F1, F2, eF, ⟨x, rfl, h1⟩, fun o z F3 hr => ?_⟩
    cases o with
    | none =>
      have : F3 = [] := hr
      subst this
      exact ⟨z, τ, rfl, h2⟩
    | some t =>
      obtain ⟨x, e, r⟩ := hr
      exact ⟨x, τ, F3, F2, by rw [e] <;> rfl, rfl, r, h2⟩
  | none :: g, σ, F, i + 1, ⟨y, τ, e, h⟩, hl => by
    subst e
    obtain ⟨A, Fi, B, eF, hs, hp⟩ := RpG.split g τ F i h (Nat.lt_of_succ_lt_succ hl)
    exact ⟨A, Fi, B, eF, hs, fun o z F2 hr => ⟨y, τ.set i z, rfl, hp o z F2 hr⟩⟩
  | some t :: g, σ, F, i + 1, ⟨x, τ, F1, F2, e, eF, h1, h2⟩, hl => by
    subst e
    obtain ⟨A, Fi, B, eF2, hs, hp⟩ := RpG.split g τ F2 i h2 (Nat.lt_of_succ_lt_succ hl)
    exact ⟨F1 ++ A, Fi, B, by rw [eF, eF2, List.append_assoc], hs, fun o z F3 hr => ⟨x, τ.set i z, F1, A ++ (F3 ++ B), rfl, by rw [List.append_assoc], h1, hp o z F3 hr⟩⟩
theorem set_getD {α : Type} (l : List α) (i : Nat) (d : α) : l.set i (l.getD i d) = l := by
  by_cases h : i < l.length
  · rw [List.getD_eq_getElem?_getD, List.getElem?_eq_getElem h]
    exact List.set_getElem_self h
  · exact List.set_eq_of_length_le (by omega)
theorem nd_mid {A B Fi : List Addr} (h : (A ++ (Fi ++ B)).Nodup) : (A ++ B).Nodup ∧ Fi.Nodup ∧ (∀ b ∈ Fi, b ∉ A ++ B) := by
  rw [List.nodup_append, List.nodup_append] at h
  obtain ⟨h1, ⟨h2, h3, h4⟩, h5⟩ := h
  refine ⟨List.nodup_append.mpr ⟨h1, h3, fun a ha b hb => h5 a ha b (List.mem_append_right _ hb)⟩, h2, fun b hb hm => ?_⟩
  rcases List.mem_append.mp hm with hm | hm
  · exact h5 b hm b (List.mem_append_left _ hb) rfl
  · exact h4 b hb b hm rfl
theorem nd_in {A B Fi : List Addr} (h1 : (A ++ B).Nodup) (h2 : Fi.Nodup) (h3 : ∀ b ∈ Fi, b ∉ A ++ B) : (A ++ (Fi ++ B)).Nodup := by
  obtain ⟨a1, a2, a3⟩ := List.nodup_append.mp h1
  refine List.nodup_append.mpr ⟨a1, List.nodup_append.mpr ⟨h2, a2, fun x hx y hy e => ?_⟩, fun x hx y hy e => ?_⟩
  · subst e; exact h3 x hx (List.mem_append_right _ hy)
  · subst e
    rcases List.mem_append.mp hy with hy | hy
    · exact h3 x hy (List.mem_append_left _ hx)
    · exact a3 x hx x hy rfl
/-- disjoint -/
def Dj (F1 F2 : List Addr) : Prop := ∀ b ∈ F1, b ∉ F2
theorem Dj.symm {F1 F2 : List Addr} (h : Dj F1 F2) : Dj F2 F1 := fun b hb h2 => h b h2 hb
theorem Dj.nd {F1 F2 : List Addr} (h : Dj F1 F2) (h1 : F1.Nodup) (h2 : F2.Nodup) : (F1 ++ F2).Nodup := List.nodup_append.mpr ⟨h1, h2, fun a ha b hb e => h a ha (e ▸ hb)⟩
theorem nd_dj {F1 F2 : List Addr} (h : (F1 ++ F2).Nodup) : F1.Nodup ∧ F2.Nodup ∧ Dj F2 F1 := by
  obtain ⟨a, b, c⟩ := List.nodup_append.mp h
  exact ⟨a, b, fun x hx hy => c x hy x hx rfl⟩
/-- a slot's tree is taken out -/
theorem Good.take {g : Env} {σ : St} {F : List Addr} (G : Good C S H g σ F) {i : Nat} (hi : i < g.length) : ∃ Fr Fi, SlotRel C S H (g.getD i none) (σ.getD i none) Fi ∧ Good C S H (g.set i none) σ Fr ∧ Fi.Nodup ∧ Dj Fi Fr ∧ (∀ b, b ∈ F ↔ b ∈ Fr ∨ b ∈ Fi) := by
  obtain ⟨A, Fi, B, e, hs, hp⟩ := RpG.split g σ F i G.rel hi
  have nd := G.nd
  rw [e] at nd
  obtain ⟨n1, n2, n3⟩ := nd_mid nd
  have q := hp none (σ.getD i none) [] rfl
  rw [set_getD] at q
  refine ⟨A ++ B, Fi, hs, ⟨q, n1, G.sdom⟩, n2, n3, fun b => ?_⟩
  rw [e]
  simp only [List.mem_append]
  constructor
  · rintro (h | h | h)
    · exact .inl (.inl h)
    · exact .inr h
    · exact .inl (.inr h)
  · rintro ((h | h) | h)
    · exact .inl h
    · exact .inr (.inr h)
    · exact .inr (.inl h)
/-- a tree is put into a slot (what stood there is dropped) -/
theorem Good.put {g : Env} {σ : St} {Fr Fi : List Addr} (G : Good C S H g σ Fr) {i : Nat} (hi : i < g.length) {o : Option T} {y : Option V} (hs : SlotRel C S H o y Fi) (n1 : Fi.Nodup) (n2 : Dj Fi Fr) :
    ∃ F, Good C S H (g.set i o) (σ.set i y) F ∧ (∀ b ∈ F, b ∈ Fr ∨ b ∈ Fi) ∧ (∀ b ∈ Fi, b ∈ F) := by
  obtain ⟨A, Fj, B, e, hs2, hp⟩ := RpG.split g σ Fr i G.rel hi
  have nd := G.nd
  rw [e] at nd
  obtain ⟨m1, m2, m3⟩ := nd_mid nd
  refine ⟨A ++ (Fi ++ B), ⟨hp o y Fi hs, nd_in m1 n1 fun b hb hm => n2 b hb ?_, G.sdom⟩, fun b hb => ?_, fun b hb => List.mem_append_right _ (List.mem_append_left _ hb)⟩
  · rw [e]
    rcases List.mem_append.mp hm with hm | hm
    · exact List.mem_append_left _ hm
    · exact List.mem_append_right _ (List.mem_append_right _ hm)
  · rw [e]
    rcases List.mem_append.mp hb with hm | hm
    · exact .inl (List.mem_append_left _ hm)
    · rcases List.mem_append.mp hm with hm | hm
      · exact .inr hm
      · exact .inl (List.mem_append_right _ (List.mem_append_right _ hm))
theorem getD_lt {g : Env} {i : Nat} {t : T} (h : g.getD i none = some t) : i < g.length := by
  by_cases hl : i < g.length
  · exact hl
  · rw [List.getD_eq_getElem?_getD, List.getElem?_eq_none (by omega)] at h
    cases h
theorem Good.len {g : Env} {σ : St} {F : List Addr} (G : Good C S H g σ F) : σ.length = g.length := RpG.length G.rel
theorem slot_some {σ : St} {i : Nat} {x : V} (hi : i < σ.length) (h : σ.getD i none = some x) : σ[i]? = some (some x) := by
  rw [List.getD_eq_getElem?_getD, List.getElem?_eq_getElem hi] at h
  rw [List.getElem?_eq_getElem hi]
  exact congrArg some h
/-- what a name holds -/
theorem Good.get {g : Env} {σ : St} {F : List Addr} (G : Good C S H g σ F) {i : Nat} {t : T} (h : g.getD i none = some t) : ∃ x Fi, σ[i]? = some (some x) ∧ Rp C S H t x Fi ∧ Fi.Nodup ∧ ∀ b ∈ Fi, b ∈ F := by
  obtain ⟨Fr, Fi, hs, _, n, _, hm⟩ := G.take (getD_lt h)
  rw [h] at hs
  obtain ⟨x, e, r⟩ := hs
  exact ⟨x, Fi, slot_some (by rw [G.len]; exact getD_lt h) e, r, n, fun b hb => (hm b).mpr (.inr hb)⟩
/-- other S, other H, the own places kept -/
theorem Good.stay {g : Env} {σ : St} {F : List Addr} (G : Good C S H g σ F) (hS : ∀ a, S a → S' a) (k : Stays S F H H') (hF : ∀ b ∈ F, ¬ S' b) (hd : ∀ a, S' a → ∃ ys, H' a = some (.lst ys)) : Good C S' H' g σ F :=
  ⟨RpG.stay hS g σ F k hF G.rel, G.nd, hd⟩
theorem Stays.same {F : List Addr} : Stays S F H H := fun _ _ h _ => h
/-- more is frozen -/
theorem Good.grow {g : Env} {σ : St} {F D : List Addr} (G : Good C S H g σ F) (n : Dj D F) (hd : ∀ b ∈ D, ∃ ys, H b = some (.lst ys)) : Good C (SF S D) H g σ F :=
  G.stay (fun _ h => .inl h) Stays.same (fun b hb z => z.elim (fun z => (G.own b hb).1 z) fun z => n b z hb) fun a h => h.elim (G.sdom a) (hd a)
theorem Tr.froze {F F' D : List Addr} (h : ∀ b ∈ F', b ∈ F) (hD : ∀ b ∈ D, b ∈ F) : Tr S H F (SF S D) H F' :=
  ⟨fun _ z => .inl z, fun _ _ z _ => z, fun b z => z.elim .inl fun z => .inr (.inl (hD b z)), fun b z => .inl (h b z), fun _ z => z⟩

/-! ### the wishes -/
/-- an exception of the class c with the fields fs -/
def ExRel (C : RC) (c : Nat) (fs : List T) (cls : Value) (d : Option Addr) (S : Addr → Prop) (H : Hp) : Prop :=
  cls = .ref (C.cad c) ∧ ∃ dd ys vs, d = some dd ∧ H dd = some (.xd ys) ∧ RpL C S H fs vs [] ∧ FldsAt (flds c) vs ys
def outX (C : RC) (W : WX) (σ : St) (S : Addr → Prop) (H : Hp) (F : List Addr) (c : Nat) (fs : List T) (g : Env) : Prop :=
  ∀ cls d H' S' F', Tr S H F S' H' F' → Good C S' H' g σ F' → ExRel C c fs cls d S' H' → W cls d σ H'
def outE (C : RC) (W : WX) (σ : St) (S : Addr → Prop) (H : Hp) (F : List Addr) (r : Rs T) (Q : VK) : Prop := match r with
  | .ok t g => ∀ x H' S' F' F1, Tr S H F S' H' (F' ++ F1) → Good C S' H' g σ F' → Rp C S' H' t x F1 → F1.Nodup → Dj F1 F' → Q x H'
  | .exc c fs g => outX C W σ S H F c fs g
  | .bad => False
def tD (C : RC) (W : WX) (M : Fns) (e : E) : TE := fun σ H Q => ∃ S g F, Good C S H g σ F ∧ outE C W σ S H F (ev M e g) Q
theorem outX.tr {W : WX} {σ : St} {F F' : List Addr} {c : Nat} {fs : List T} {g : Env} (h : outX C W σ S H F c fs g) (t : Tr S H F S' H' F') : outX C W σ S' H' F' c fs g :=
  fun cls d H2 S2 F2 t2 G x => h cls d H2 S2 F2 (t.trans t2) G x
theorem outE.tr {W : WX} {σ : St} {F F' : List Addr} {r : Rs T} {Q : VK} (h : outE C W σ S H F r Q) (t : Tr S H F S' H' F') : outE C W σ S' H' F' r Q := by
  cases r with
  | ok a g => exact fun x H2 S2 F2 F3 t2 => h x H2 S2 F2 F3 (t.trans t2)
  | exc c fs g => exact outX.tr h t
  | bad => exact h
theorem outE.mono {W : WX} {σ : St} {F : List Addr} {r : Rs T} {Q Q' : VK} (h : outE C W σ S H F r Q) (hq : ∀ x H', Q x H' → Q' x H') : outE C W σ S H F r Q' := by
  cases r with
  | ok a g => exact fun x H2 S2 F2 F3 t2 G r n d => hq _ _ (h x H2 S2 F2 F3 t2 G r n d)
  | exc c fs g => exact h
  | bad => exact h
/-- one reading behind another -/
theorem outE.seq {W : WX} {σ : St} {F : List Addr} {r : Rs T} {f : T → Env → Rs T} {Q R : VK} (h : outE C W σ S H F (r.bind f) Q)
    (k : ∀ t g, r = .ok t g → ∀ x H' S' F' F1, Tr S H F S' H' (F' ++ F1) → Good C S' H' g σ F' → Rp C S' H' t x F1 → F1.Nodup → Dj F1 F' → outE C W σ S' H' F' (f t g) Q → R x H') : outE C W σ S H F r R := by
  cases r with
  | ok t g => exact fun x H' S' F' F1 t1 G rp n d => k t g rfl x H' S' F' F1 t1 G rp n d (outE.tr h (t1.sub' fun b hb => List.mem_append_left _ hb))
  | exc c fs g => exact h
  | bad => exact h

/-! ### operands -/
def OdRel (C : RC) (S : Addr → Prop) (H : Hp) (σ : St) : List Od → List V → List Addr → Prop
  | [], vs, F => vs = [] ∧ F = []
  | .v i :: os, vs, F => ∃ x ws, vs = x :: ws ∧ σ[i]? = some (some x) ∧ OdRel C S H σ os ws F
  | .x t :: os, vs, F => ∃ x ws F1 F2, vs = x :: ws ∧ F = F1 ++ F2 ∧ Rp C S H t x F1 ∧ OdRel C S H σ os ws F2
theorem OdRel.own {σ : St} : ∀ (os : List Od) (vs : List V) (F : List Addr), OdRel C S H σ os vs F → ∀ b ∈ F, ¬ S b ∧ ∃ ys, H b = some (.lst ys)
  | [], vs, F, h, b, hb => by rw [h.2] at hb; cases hb
  | .v i :: os, vs, F, ⟨x, ws, e, _, h⟩, b, hb => OdRel.own os ws F h b hb
  | .x t :: os, vs, F, ⟨x, ws, F1, F2, e, eF, h1, h2⟩, b, hb => by
    subst eF
    rcases List.mem_append.mp hb with hb | hb
    · exact Rp.own t x F1 h1 b hb
    · exact OdRel.own os ws F2 h2 b hb
theorem OdRel.stay {σ : St} (hS : ∀ a, S a → S' a) : ∀ (os : List Od) (vs : List V) (F : List Addr), Stays S F H H' → (∀ b ∈ F, ¬ S' b) → OdRel C S H σ os vs F → OdRel C S' H' σ os vs F
  | [], vs, F, _, _, h => h
  | .v i :: os, vs, F, k, hF, ⟨x, ws, e, h0, h⟩ => ⟨x, ws, e, h0, OdRel.stay hS os ws F k hF h⟩
  | .x t :: os, vs, F, k, hF, ⟨x, ws, F1, F2, e, eF, h1, h2⟩ => by
    subst eF
    exact ⟨x, ws, F1, F2, e, rfl, Rp.stay hS t x F1 (k.mono fun b hb => List.mem_append_left _ hb) (fun b hb => hF b (List.mem_append_left _ hb)) h1,
      OdRel.stay hS os ws F2 (k.mono fun b hb => List.mem_append_right _ hb) (fun b hb => hF b (List.mem_append_right _ hb)) h2⟩
def outO (C : RC) (W : WX) (σ : St) (S : Addr → Prop) (H : Hp) (F : List Addr) (r : Rs (List Od)) (R : List V → Hp → Prop) : Prop := match r with
  | .ok ods g => ∀ vs H' S' F' F1, Tr S H F S' H' (F' ++ F1) → Good C S' H' g σ F' → OdRel C S' H' σ ods vs F1 → F1.Nodup → Dj F1 F' → R vs H'
  | .exc c fs g => outX C W σ S H F c fs g
  | .bad => False
def tL (C : RC) (W : WX) (M : Fns) : Es → TA
  | .nil => tNil
  | .e a r => tCons (tD C W M a) (tL C W M r)
  | .v i r => tCons (tVar i) (tL C W M r)
theorem opnds {W : WX} {M : Fns} {σ : St} : ∀ (es : Es) (S : Addr → Prop) (H : Hp) (F : List Addr) (g : Env) (R : List V → Hp → Prop), Good C S H g σ F → outO C W σ S H F (evO M es g) R → tL C W M es σ H R
  | .nil, S, H, F, g, R, G, h => h [] H S F [] (Tr.refl.sub' fun b hb => by rw [List.append_nil] at hb; exact hb) G ⟨rfl, rfl⟩ List.nodup_nil (fun b hb => nomatch hb)
  | .v i r, S, H, F, g, R, G, h => by
    unfold evO at h
    cases e : g.getD i none with
    | none => rw [e] at h; exact h.elim
    | some t =>
      rw [e] at h
      obtain ⟨x, Fi, hx, _⟩ := G.get e
      refine ⟨x, hx, opnds r S H F g (fun xs H2 => R (x :: xs) H2) G ?_⟩
      cases e2 : evO M r g with
      | bad => rw [e2] at h; exact h
      | exc c fs g2 => rw [e2] at h; exact h
      | ok ods g2 =>
        rw [e2] at h
        exact fun vs H' S' F' F1 t1 G1 od n d => h (x :: vs) H' S' F' F1 t1 G1 ⟨x, vs, rfl, hx, od⟩ n d
  | .e a r, S, H, F, g, R, G, h => by
    unfold evO at h
    refine ⟨S, g, F, G, ?_⟩
    cases e : ev M a g with
    | bad => rw [e] at h; exact h
    | exc c fs g1 => rw [e] at h; exact h
    | ok t g1 =>
      rw [e] at h
      intro x H1 S1 F1 Fa t1 G1 rp na da
      refine opnds r S1 H1 F1 g1 (fun xs H2 => R (x :: xs) H2) G1 ?_
      have h' : outO C W σ S H F ((evO M r g1).bind fun ods g => .ok (.x t :: ods) g) R := h
      have t1' : Tr S H F S1 H1 F1 := t1.sub' fun b hb => List.mem_append_left _ hb
      cases e2 : evO M r g1 with
      | bad => rw [e2] at h'; exact h'
      | exc c fs g2 => rw [e2] at h'; exact outX.tr h' t1'
      | ok ods g2 =>
        rw [e2] at h'
        intro vs H2 S2 F2 Fb t2 G2 od nb db
        have own1 := G1.own
        have st := t2.rp own1 da rp
        have dab : ∀ b ∈ Fa, b ∉ F2 ++ Fb := t2.noF da (Rp.own t x Fa rp)
        refine h' (x :: vs) H2 S2 F2 (Fa ++ Fb) ?_ G2 ⟨x, vs, Fa, Fb, rfl, rfl, st, od⟩ (List.nodup_append.mpr ⟨na, nb, fun p hp q hq e => dab p hp (List.mem_append_right _ (e ▸ hq))⟩) fun b hb hf => ?_
        · refine (t1.trans t2.aside).sub' fun b hb => ?_
          simp only [List.mem_append] at hb ⊢
          rcases hb with hb | hb | hb
          · exact .inl (.inl hb)
          · exact .inr hb
          · exact .inl (.inr hb)
        · rcases List.mem_append.mp hb with hb | hb
          · exact dab b hb (List.mem_append_left _ hf)
          · exact db b hb hf
end Kv

/-! Kv 4: an operator's operands made ready; what an operator's rule must give. -/
namespace Kv
open PySem L2
variable {C : RC} {S S' : Addr → Prop} {H H' : Hp}

mutual
theorem T.fz_fz : ∀ t : T, t.fz.fz = t.fz
  | .lst o xs => by simp only [T.fz, T.fzL_fzL xs]
  | .tup xs => by simp only [T.fz, T.fzL_fzL xs]
  | .non => rfl
  | .bl _ => rfl
  | .int _ => rfl
  | .str _ => rfl
  | .scr _ => rfl
  | .dic _ => rfl
  | .exc _ _ => rfl
theorem T.fzL_fzL : ∀ ts : List T, T.fzL (T.fzL ts) = T.fzL ts
  | [] => rfl
  | t :: ts => by simp only [T.fzL, T.fz_fz t, T.fzL_fzL ts]
end
theorem T.fk_fk (t : T) : t.fk.fk = t.fk := by
  cases t with
  | lst o xs => simp only [T.fk, T.fzL_fzL]
  | tup xs => simp only [T.fk, T.fzL_fzL]
  | _ => rfl
theorem fzL_map : ∀ ts : List T, T.fzL ts = ts.map T.fz
  | [] => rfl
  | t :: ts => by rw [T.fzL, fzL_map ts] <;> rfl
theorem Rp.fk' {t : T} {x : V} {F : List Addr} (nd : F.Nodup) (h : Rp C S H t x F) : ∃ F1, (∀ b ∈ F1, b ∈ F) ∧ F1.Nodup ∧
    ∀ S2 : Addr → Prop, (∀ a, S a → S2 a) → (∀ b ∈ F, b ∉ F1 → S2 b) → (∀ b ∈ F1, ¬ S2 b) → Rp C S2 H t.fk x F1 := by
  obtain ⟨F1, a, b, r⟩ := Rp.fk nd h
  refine ⟨F1, a, b, fun S2 h1 h2 h3 => Rp.stay (fun a z => ?_) _ _ _ Stays.same h3 r⟩
  rcases z with z | ⟨z1, z2⟩
  · exact h1 a z
  · exact h2 a z1 z2
theorem fkV_length : ∀ (os : List Od) (g : Env), (fkV g os).length = g.length
  | [], g => rfl
  | .v i :: os, g => by rw [fkV, fkV_length os, List.length_set]
  | .x _ :: os, g => by rw [fkV, fkV_length os]
theorem getD_set {g : Env} {i j : Nat} {o : Option T} : (g.set i o).getD j none = if i = j ∧ i < g.length then o else g.getD j none := by
  simp only [List.getD_eq_getElem?_getD, List.getElem?_set]
  by_cases e : i = j
  · subst e
    by_cases hl : i < g.length
    · simp [hl]
    · simp [hl, List.getElem?_eq_none (Nat.le_of_not_lt hl)]
  · simp [e]
theorem fkV_get : ∀ (os : List Od) (g : Env) (i : Nat), (fkV g os).getD i none = if i ∈ vars os then (g.getD i none).map T.fk else g.getD i none
  | [], g, i => rfl
  | .x _ :: os, g, i => fkV_get os g i
  | .v j :: os, g, i => by
    show (fkV (g.set j ((g.getD j none).map T.fk)) os).getD i none = _
    rw [fkV_get os _ i, getD_set]
    by_cases e : j = i
    · subst e
      by_cases hl : j < g.length
      · simp only [hl, and_self, if_true, vars, List.mem_cons, true_or]
        cases g.getD j none with
        | none => simp
        | some t => simp [T.fk_fk]
      · have e2 : g.getD j none = none := by rw [List.getD_eq_getElem?_getD, List.getElem?_eq_none (Nat.le_of_not_lt hl)] <;> rfl
        simp [hl, e2, vars]
    · have e2 : ¬ (i = j) := fun z => e z.symm
      simp [e, vars, e2]
theorem fkV_good : ∀ (os : List Od) (S : Addr → Prop) (g : Env) (σ : St) (F : List Addr), Good C S H g σ F →
    ∃ S2 F2, (∀ a, S a → S2 a) ∧ (∀ b, S2 b → S b ∨ b ∈ F) ∧ (∀ b ∈ F2, b ∈ F) ∧ Good C S2 H (fkV g os) σ F2
  | [], S, g, σ, F, G => ⟨S, F, fun _ h => h, fun _ h => .inl h, fun _ h => h, G⟩
  | .x _ :: os, S, g, σ, F, G => fkV_good os S g σ F G
  | .v i :: os, S, g, σ, F, G => by
    by_cases hi : i < g.length
    · obtain ⟨Fr, Fi, hs, G1, n1, d1, hm⟩ := G.take hi
      cases e : g.getD i none with
      | none =>
        obtain ⟨S2, F2, a1, a2, a3, G2⟩ := fkV_good os S (g.set i none) σ Fr G1
        refine ⟨S2, F2, a1, fun b hb => (a2 b hb).imp id fun z => (hm b).mpr (.inl z), fun b hb => (hm b).mpr (.inl (a3 b hb)), ?_⟩
        show Good C S2 H (fkV (g.set i ((g.getD i none).map T.fk)) os) σ F2
        rw [e]
        exact G2
      | some t =>
        rw [e] at hs
        obtain ⟨x, ex, r⟩ := hs
        obtain ⟨Fj, b1, b2, b3⟩ := Rp.fk' n1 r
        have own := Rp.own t x Fi r
        have S1a : ∀ a, S a → S a ∨ (a ∈ Fi ∧ a ∉ Fj) := fun a z => .inl z
        have nFj : ∀ b ∈ Fj, ¬ (S b ∨ (b ∈ Fi ∧ b ∉ Fj)) := fun b hb z => z.elim (fun z => (own b (b1 b hb)).1 z) fun z => z.2 hb
        have r2 := b3 (fun a => S a ∨ (a ∈ Fi ∧ a ∉ Fj)) S1a (fun b h1 h2 => .inr ⟨h1, h2⟩) nFj
        have G2 : Good C (fun a => S a ∨ (a ∈ Fi ∧ a ∉ Fj)) H (g.set i none) σ Fr := G1.stay S1a Stays.same (fun b hb z => z.elim (fun z => (G1.own b hb).1 z) fun z => d1 b z.1 hb) fun a h => h.elim (G.sdom a) fun z => (own a z.1).2
        obtain ⟨F3, G3, c1, c2⟩ := G2.put (i := i) (o := some t.fk) (y := σ.getD i none) (by rw [List.length_set]; exact hi) ⟨x, ex, r2⟩ b2 (fun b hb => d1 b (b1 b hb))
        rw [List.set_set, set_getD] at G3
        obtain ⟨S4, F4, a1, a2, a3, G4⟩ := fkV_good os _ (g.set i (some t.fk)) σ F3 G3
        have inF : ∀ b ∈ F3, b ∈ F := fun b hb => (hm b).mpr ((c1 b hb).imp id fun z => b1 b z)
        refine ⟨S4, F4, fun a z => a1 a (.inl z), fun b hb => ?_, fun b hb => inF b (a3 b hb), ?_⟩
        · rcases a2 b hb with (z | z) | z
          · exact .inl z
          · exact .inr ((hm b).mpr (.inr z.1))
          · exact .inr (inF b z)
        · show Good C S4 H (fkV (g.set i ((g.getD i none).map T.fk)) os) σ F4
          rw [e]
          exact G4
    · have e : g.set i ((g.getD i none).map T.fk) = g := List.set_eq_of_length_le (by omega)
      show ∃ S2 F2, (∀ a, S a → S2 a) ∧ (∀ b, S2 b → S b ∨ b ∈ F) ∧ (∀ b ∈ F2, b ∈ F) ∧ Good C S2 H (fkV (g.set i ((g.getD i none).map T.fk)) os) σ F2
      rw [e]
      exact fkV_good os S g σ F G
/-- trees of values, for reading -/
def RpB (C : RC) (S : Addr → Prop) (H : Hp) : List T → List V → Prop
  | [], vs => vs = []
  | t :: ts, vs => ∃ v ws, vs = v :: ws ∧ (∃ F, Rp C S H t v F) ∧ RpB C S H ts ws
theorem od_fk {σ : St} {g g0 : Env} {F : List Addr} (G : Good C S H g0 σ F) : ∀ (os : List Od) (vs : List V) (F1 : List Addr) (ts : List T), OdRel C S H σ os vs F1 → F1.Nodup → Dj F1 F → getL g os = some ts →
    (∀ i ∈ vars os, g0.getD i none = (g.getD i none).map T.fk) →
    ∃ R : List Addr, (∀ b ∈ R, b ∈ F1) ∧ ∀ S2 : Addr → Prop, (∀ a, S a → S2 a) → (∀ b ∈ F1, b ∉ R → S2 b) → (∀ b ∈ R, ¬ S2 b) → (∀ b ∈ F, ¬ S2 b) → RpB C S2 H (ts.map T.fk) vs
  | [], vs, F1, ts, ⟨h1, h2⟩, _, _, hg, _ => by
    cases hg
    exact ⟨[], (fun b hb => nomatch hb), fun S2 _ _ _ _ => h1⟩
  | .v i :: os, vs, F1, ts, ⟨x, ws, e, hx, h⟩, nd, dj, hg, hv => by
    unfold getL at hg
    simp only [Od.get] at hg
    cases e1 : g.getD i none with
    | none => rw [e1] at hg; cases hg
    | some t =>
      cases e2 : getL g os with
      | none => rw [e1, e2] at hg; cases hg
      | some us =>
        rw [e1, e2] at hg
        cases hg
        obtain ⟨R, h1, h2⟩ := od_fk G os ws F1 us h nd dj e2 fun j hj => hv j (List.mem_cons_of_mem _ hj)
        have e3 : g0.getD i none = some t.fk := by rw [hv i List.mem_cons_self, e1] <;> rfl
        obtain ⟨y, Fi, hy, r, _, hF⟩ := G.get e3
        rw [hx] at hy
        cases hy
        refine ⟨R, h1, fun S2 s1 s2 s3 s4 => ⟨x, ws, e, ⟨Fi, Rp.stay s1 _ _ _ Stays.same (fun b hb => s4 b (hF b hb)) r⟩, h2 S2 s1 s2 s3 s4⟩⟩
  | .x t :: os, vs, F1, ts, ⟨x, ws, Fa, Fb, e, eF, r, h⟩, nd, dj, hg, hv => by
    subst eF
    unfold getL at hg
    simp only [Od.get] at hg
    obtain ⟨na, nb, nab⟩ := nd_dj nd
    cases e2 : getL g os with
    | none => rw [e2] at hg; cases hg
    | some us =>
      rw [e2] at hg
      cases hg
      obtain ⟨R, h1, h2⟩ := od_fk G os ws Fb us h nb (fun b hb => dj b (List.mem_append_right _ hb)) e2 hv
      obtain ⟨Fj, b1, b2, b3⟩ := Rp.fk' na r
      refine ⟨Fj ++ R, fun b hb => ?_, fun S2 s1 s2 s3 s4 => ⟨x, ws, e, ⟨Fj, b3 S2 s1 (fun b hb hn => s2 b (List.mem_append_left _ hb) fun z => ?_) fun b hb => s3 b (List.mem_append_left _ hb)⟩, h2 S2 s1 (fun b hb hn => s2 b (List.mem_append_right _ hb) fun z => ?_) (fun b hb => s3 b (List.mem_append_right _ hb)) s4⟩⟩
      · rcases List.mem_append.mp hb with hb | hb
        · exact List.mem_append_left _ (b1 b hb)
        · exact List.mem_append_right _ (h1 b hb)
      · rcases List.mem_append.mp z with z | z
        · exact hn z
        · exact nab b (h1 b z) hb
      · rcases List.mem_append.mp z with z | z
        · exact nab b hb (b1 b z)
        · exact hn z
theorem Good.same {g : Env} {σ : St} {F : List Addr} (G : Good C S H g σ F) (k : Same H H') : Good C S H' g σ F :=
  G.stay (fun _ h => h) (fun b o e _ => k b o e) (fun b hb => (G.own b hb).1) fun a h => by
    obtain ⟨ys, e⟩ := G.sdom a h
    exact ⟨ys, k a _ e⟩
theorem Tr.alloc {F F1 : List Addr} (k : Same H H') (h : ∀ b ∈ F1, H b = none) : Tr S H F S H' (F ++ F1) :=
  ⟨fun _ z => z, fun b o e _ => k b o e, fun _ z => .inl z, fun b hb => (List.mem_append.mp hb).imp id (h b), fun b z => k.free z⟩
/-- what an operator must give: from readable trees ts the tree that opS names, its new places new -/
def rOp (C : RC) (o : Op) (vs : List V) (H : Hp) (Q : VK) : Prop :=
  ∃ S ts t, RpB C S H ts vs ∧ (∀ u ∈ ts, u.fk = u) ∧ (∀ a, S a → ∃ ys, H a = some (.lst ys)) ∧ opS o ts = some t ∧ ∀ x H' F1, Same H H' → (∀ b ∈ F1, H b = none) → F1.Nodup → Rp C S H' t x F1 → Q x H'
theorem op_end {W : WX} {M : Fns} {σ : St} {F1 Fa : List Addr} {g1 : Env} {o : Op} {ods : List Od} {Q : VK} {vs : List V} {S0 : Addr → Prop} {H0 : Hp} {F0 : List Addr} {S1 : Addr → Prop} {H1 : Hp} (t1 : Tr S0 H0 F0 S1 H1 (F1 ++ Fa)) (G1 : Good C S1 H1 g1 σ F1) (od : OdRel C S1 H1 σ ods vs Fa) (na : Fa.Nodup) (da : Dj Fa F1)
    (h' : outE C W σ S0 H0 F0 (opEnd o ods g1) Q) : rOp C o vs H1 Q := by
  unfold opEnd at h'
  cases e1 : getL g1 ods with
  | none => rw [e1] at h'; exact h'.elim
  | some ts =>
    cases e2 : opS o (ts.map T.fk) with
    | none => rw [e1] at h'; simp only [e2] at h'; exact h'.elim
    | some t =>
      rw [e1] at h'
      simp only [e2] at h'
      obtain ⟨S2, F2, a1, a2, a3, G2⟩ := fkV_good ods S1 g1 σ F1 G1
      have daF2 : Dj Fa F2 := fun b hb hf => da b hb (a3 b hf)
      have ownA := OdRel.own ods vs Fa od
      have nS2 : ∀ b ∈ Fa, ¬ S2 b := fun b hb z => (a2 b z).elim (fun z => (ownA b hb).1 z) fun z => da b hb z
      have od2 : OdRel C S2 H1 σ ods vs Fa := OdRel.stay a1 ods vs Fa Stays.same nS2 od
      obtain ⟨R, r1, r2⟩ := od_fk G2 ods vs Fa ts od2 na daF2 e1 fun i hi => by rw [fkV_get, if_pos hi]
      have s3a : ∀ a, S2 a → S2 a ∨ (a ∈ Fa ∧ a ∉ R) := fun a z => .inl z
      have s3F : ∀ b ∈ F2, ¬ (S2 b ∨ (b ∈ Fa ∧ b ∉ R)) := fun b hb z => z.elim (fun z => (G2.own b hb).1 z) fun z => daF2 b z.1 hb
      have s3d : ∀ a, (S2 a ∨ (a ∈ Fa ∧ a ∉ R)) → ∃ ys, H1 a = some (.lst ys) := fun a z => z.elim (G2.sdom a) fun z => (ownA a z.1).2
      have G3 : Good C (fun a => S2 a ∨ (a ∈ Fa ∧ a ∉ R)) H1 (fkV g1 ods) σ F2 := G2.stay s3a Stays.same s3F s3d
      refine ⟨_, ts.map T.fk, t, r2 (fun a => S2 a ∨ (a ∈ Fa ∧ a ∉ R)) s3a (fun b hb hn => .inr ⟨hb, hn⟩) (fun b hb z => z.elim (fun z => nS2 b (r1 b hb) z) fun z => z.2 hb) s3F, fun u hu => (by
        obtain ⟨w, _, e⟩ := List.mem_map.mp hu
        rw [← e, T.fk_fk]), s3d, e2, fun x H' Fx k fr nx rp => ?_⟩
      have t2 : Tr S1 H1 (F1 ++ Fa) (fun a => S2 a ∨ (a ∈ Fa ∧ a ∉ R)) H1 F2 := ⟨fun a z => .inl (a1 a z), fun _ _ z _ => z, fun b z => by
        rcases z with z | z
        · exact (a2 b z).imp id fun z => .inl (List.mem_append_left _ z)
        · exact .inr (.inl (List.mem_append_right _ z.1)), fun b hb => .inl (List.mem_append_left _ (a3 b hb)), fun _ z => z⟩
      refine h' x H' _ F2 Fx ((t1.trans t2).trans (Tr.alloc k fr)) (G3.same k) rp nx fun b hb hf => ?_
      obtain ⟨_, ys, e3⟩ := G3.own b hf
      rw [fr b hb] at e3
      cases e3
theorem op_out {W : WX} {M : Fns} {σ : St} {F : List Addr} {g : Env} {o : Op} {es : Es} {Q : VK} (G : Good C S H g σ F) (h : outE C W σ S H F (ev M (.op o es) g) Q) : tL C W M es σ H fun vs H' => rOp C o vs H' Q := by
  refine opnds es S H F g _ G ?_
  unfold ev at h
  cases e : evO M es g with
  | bad => rw [e] at h; exact h
  | exc c fs g1 => rw [e] at h; exact h
  | ok ods g1 =>
    rw [e] at h
    exact fun vs H1 S1 F1 Fa t1 G1 od na da => op_end (M := M) t1 G1 od na da h
end Kv

/-! Kv 5: each operator's rule. -/
namespace Kv
open PySem L2
variable {C : RC} {S S' : Addr → Prop} {H H' : Hp}

theorem RpB.one {ts : List T} {x : V} (h : RpB C S H ts [x]) : ∃ t F, ts = [t] ∧ Rp C S H t x F := by
  cases ts with
  | nil => cases h
  | cons t ts =>
    obtain ⟨v, ws, e, ⟨F, r⟩, h2⟩ := h
    cases e
    cases ts with
    | nil => exact ⟨t, F, rfl, r⟩
    | cons _ _ => obtain ⟨_, _, e, _⟩ := h2; cases e
theorem RpB.two {ts : List T} {x y : V} (h : RpB C S H ts [x, y]) : ∃ t u F F', ts = [t, u] ∧ Rp C S H t x F ∧ Rp C S H u y F' := by
  cases ts with
  | nil => cases h
  | cons t ts =>
    obtain ⟨v, ws, e, ⟨F, r⟩, h2⟩ := h
    cases e
    obtain ⟨u, F', e, r'⟩ := RpB.one h2
    subst e
    exact ⟨t, u, F, F', rfl, r, r'⟩
theorem RpB.three {ts : List T} {x y z : V} (h : RpB C S H ts [x, y, z]) : ∃ t u w F F' F2, ts = [t, u, w] ∧ Rp C S H t x F ∧ Rp C S H u y F' ∧ Rp C S H w z F2 := by
  cases ts with
  | nil => cases h
  | cons t ts =>
    obtain ⟨v, ws, e, ⟨F, r⟩, h2⟩ := h
    cases e
    obtain ⟨u, w, F', F2, e, r', r2⟩ := RpB.two h2
    subst e
    exact ⟨t, u, w, F, F', F2, rfl, r, r', r2⟩
mutual
theorem Rp.fz_nil : ∀ (t : T) (x : V) (F : List Addr), t.fz = t → Rp C S H t x F → F = []
  | .non, x, F, _, h => h.2
  | .bl _, x, F, _, h => h.2
  | .int _, x, F, _, h => h.2
  | .str _, x, F, _, h => h.2
  | .scr _, x, F, _, h => h.1
  | .dic _, x, F, _, h => h.1
  | .exc _ _, x, F, _, h => h.1
  | .lst true xs, x, F, e, _ => by simp [T.fz] at e
  | .lst false xs, x, F, e, ⟨a, vs, F', ex, ha, hr, hs, eF⟩ => by
    subst eF
    exact RpL.fz_nil xs vs F (by simpa [T.fz] using e) hr
  | .tup xs, x, F, e, ⟨a, vs, ex, ha, hr⟩ => RpL.fz_nil xs vs F (by simpa [T.fz] using e) hr
theorem RpL.fz_nil : ∀ (ts : List T) (vs : List V) (F : List Addr), T.fzL ts = ts → RpL C S H ts vs F → F = []
  | [], vs, F, _, h => h.2
  | t :: ts, vs, F, e, ⟨v, ws, F1, F2, e1, eF, h1, h2⟩ => by
    have e' : t.fz = t ∧ T.fzL ts = ts := by simpa [T.fzL] using e
    rw [eF, Rp.fz_nil t v F1 e'.1 h1, RpL.fz_nil ts ws F2 e'.2 h2] <;> rfl
end
theorem Rp.kids {o : Bool} {xs : List T} {x : V} {F : List Addr} (h : Rp C S H (.lst o xs) x F) (k : (T.lst o xs).fk = .lst o xs) : ∃ a vs, x = .ref a ∧ H a = some (.lst vs) ∧ RpL C S H xs vs [] := by
  obtain ⟨a, vs, F', ex, ha, hr, _⟩ := h
  have e : T.fzL xs = xs := by simpa [T.fk] using k
  rw [RpL.fz_nil xs vs F' e hr] at hr
  exact ⟨a, vs, ex, ha, hr⟩
theorem Rp.kidsT {xs : List T} {x : V} {F : List Addr} (h : Rp C S H (.tup xs) x F) (k : (T.tup xs).fk = .tup xs) : ∃ a vs, x = .ref a ∧ H a = some (.tup vs) ∧ RpL C S H xs vs [] := by
  obtain ⟨a, vs, ex, ha, hr⟩ := h
  have e : T.fzL xs = xs := by simpa [T.fk] using k
  rw [RpL.fz_nil xs vs F e hr] at hr
  exact ⟨a, vs, ex, ha, hr⟩
theorem RpL.keep {xs : List T} {vs : List V} (h : RpL C S H xs vs []) (k : Same H H') : RpL C S H' xs vs [] := RpL.stay (fun _ z => z) xs vs [] (fun b o e _ => k b o e) (fun b hb => nomatch hb) h
theorem RpL.append : ∀ {xs ys : List T} {vs ws : List V} {F G : List Addr}, RpL C S H xs vs F → RpL C S H ys ws G → RpL C S H (xs ++ ys) (vs ++ ws) (F ++ G)
  | [], ys, vs, ws, F, G, h, h' => by
    rw [h.1, h.2]; exact h'
  | t :: ts, ys, vs, ws, F, G, ⟨v, us, F1, F2, e, eF, h1, h2⟩, h' => by
    subst e eF
    exact ⟨v, us ++ ws, F1, F2 ++ G, rfl, by rw [List.append_assoc], h1, RpL.append h2 h'⟩
theorem RpL.get : ∀ {xs : List T} {vs : List V} {F : List Addr} {i : Nat} {t : T}, RpL C S H xs vs F → xs[i]? = some t → ∃ v F1, vs[i]? = some v ∧ Rp C S H t v F1 ∧ ∀ b ∈ F1, b ∈ F
  | [], _, _, _, _, _, h => by simp at h
  | t :: ts, vs, F, 0, u, ⟨v, us, F1, F2, e, eF, h1, h2⟩, h => by
    subst e eF
    cases h
    exact ⟨v, F1, rfl, h1, fun b hb => List.mem_append_left _ hb⟩
  | t :: ts, vs, F, i + 1, u, ⟨v, us, F1, F2, e, eF, h1, h2⟩, h => by
    subst e eF
    obtain ⟨w, F3, a, b, c⟩ := RpL.get (i := i) h2 (by simpa using h)
    exact ⟨w, F3, by simpa using a, b, fun b hb => List.mem_append_right _ (c b hb)⟩
theorem RpL.drop : ∀ {xs : List T} {vs : List V} (n : Nat), RpL C S H xs vs [] → RpL C S H (xs.drop n) (vs.drop n) []
  | [], vs, n, h => by
    rw [h.1, List.drop_nil, List.drop_nil]; exact ⟨rfl, rfl⟩
  | t :: ts, vs, 0, h => h
  | t :: ts, vs, n + 1, ⟨v, us, F1, F2, e, eF, h1, h2⟩ => by
    have e2 : F2 = [] := (List.append_eq_nil_iff.mp eF.symm).2
    subst e2 e
    exact RpL.drop n h2
theorem RpL.take : ∀ {xs : List T} {vs : List V} (n : Nat), RpL C S H xs vs [] → RpL C S H (xs.take n) (vs.take n) []
  | [], vs, n, h => by
    rw [h.1, List.take_nil, List.take_nil]; exact ⟨rfl, rfl⟩
  | t :: ts, vs, 0, h => ⟨rfl, rfl⟩
  | t :: ts, vs, n + 1, ⟨v, us, F1, F2, e, eF, h1, h2⟩ => by
    have e1 : F1 = [] := (List.append_eq_nil_iff.mp eF.symm).1
    have e2 : F2 = [] := (List.append_eq_nil_iff.mp eF.symm).2
    subst e1 e2 e
    exact ⟨v, us.take n, [], [], rfl, rfl, h1, RpL.take n h2⟩
theorem RpL.nil' : RpL C S H [] [] [] := ⟨rfl, rfl⟩
theorem RpL.rep {xs : List T} {vs : List V} (h : RpL C S H xs vs []) : ∀ n : Nat, RpL C S H (List.replicate n xs).flatten (List.replicate n vs).flatten []
  | 0 => ⟨rfl, rfl⟩
  | n + 1 => by
    rw [List.replicate_succ, List.replicate_succ, List.flatten_cons, List.flatten_cons]
    exact RpL.append (F := []) (G := []) h (RpL.rep h n)
theorem RpL.ints (ns : List Int) : RpL C S H (ns.map T.int) (ns.map V.int) [] := by
  induction ns with
  | nil => exact ⟨rfl, rfl⟩
  | cons n ns ih => exact ⟨.int n, ns.map V.int, [], [], rfl, rfl, ⟨rfl, rfl⟩, ih⟩
/-- a new list -/
theorem rp_new {xs : List T} {vs : List V} {p : Addr} (h : RpL C S H xs vs []) (hd : ∀ a, S a → ∃ ys, H a = some (.lst ys)) (hp : H p = none) : Same H (upd H p (.lst vs)) ∧ (∀ b ∈ [p], H b = none) ∧ [p].Nodup ∧ Rp C S (upd H p (.lst vs)) (.lst true xs) (.ref p) [p] := by
  have k : Same H (upd H p (.lst vs)) := fun b x e => by rw [upd_ne (ne_of_none e hp)]; exact e
  refine ⟨k, fun b hb => by rw [List.mem_singleton.mp hb]; exact hp, List.pairwise_singleton _ p, p, vs, [], rfl, upd_same, h.keep k, fun z => ?_, rfl⟩
  obtain ⟨ys, e⟩ := hd p z
  rw [hp] at e; cases e
theorem rp_newT {xs : List T} {vs : List V} {p : Addr} (h : RpL C S H xs vs []) (hp : H p = none) : Same H (upd H p (.tup vs)) ∧ (∀ b ∈ ([] : List Addr), H b = none) ∧ ([] : List Addr).Nodup ∧ Rp C S (upd H p (.tup vs)) (.tup xs) (.ref p) [] := by
  have k : Same H (upd H p (.tup vs)) := fun b x e => by rw [upd_ne (ne_of_none e hp)]; exact e
  exact ⟨k, fun b hb => (nomatch hb), List.nodup_nil, p, vs, rfl, upd_same, h.keep k⟩
/-- the end: a value that makes nothing new -/
theorem rq {Q : VK} {t : T} {x : V} (hq : ∀ x H' F1, Same H H' → (∀ b ∈ F1, H b = none) → F1.Nodup → Rp C S H' t x F1 → Q x H') (h : Rp C S H t x []) : Q x H := hq x H [] (Same.refl H) (fun b hb => nomatch hb) List.nodup_nil h
variable {X : Cx}
abbrev r1 (C : RC) (o : Op) : V → Hp → VK → Prop := fun x => rOp C o [x]
abbrev r2 (C : RC) (o : Op) : R2 := fun x y => rOp C o [x, y]

theorem int2_of {f : Int → Int → Option T} {ts : List T} {t : T} (h : int2 f ts = some t) : ∃ a b, ts = [.int a, .int b] ∧ f a b = some t := by
  unfold int2 at h
  split at h
  · exact ⟨_, _, rfl, h⟩
  · cases h
theorem int1_of {f : Int → Option T} {ts : List T} {t : T} (h : int1 f ts = some t) : ∃ a, ts = [.int a] ∧ f a = some t := by
  unfold int1 at h
  split at h
  · exact ⟨_, rfl, h⟩
  · cases h
theorem one1_of {f : T → Option T} {ts : List T} {t : T} (h : one1 f ts = some t) : ∃ a, ts = [a] ∧ f a = some t := by
  unfold one1 at h
  split at h
  · exact ⟨_, rfl, h⟩
  · cases h
theorem two2_of {f : T → T → Option T} {ts : List T} {t : T} (h : two2 f ts = some t) : ∃ a b, ts = [a, b] ∧ f a b = some t := by
  unfold two2 at h
  split at h
  · exact ⟨_, _, rfl, h⟩
  · cases h
theorem RpB.inv1 {t : T} {vs : List V} (h : RpB C S H [t] vs) : ∃ x F, vs = [x] ∧ Rp C S H t x F := by
  obtain ⟨v, ws, e, ⟨F, r⟩, h2⟩ := h
  have : ws = [] := h2
  subst this
  exact ⟨v, F, e, r⟩
theorem RpB.inv2 {t u : T} {vs : List V} (h : RpB C S H [t, u] vs) : ∃ x y F F', vs = [x, y] ∧ Rp C S H t x F ∧ Rp C S H u y F' := by
  obtain ⟨v, ws, e, ⟨F, r⟩, h2⟩ := h
  obtain ⟨y, F', e2, r2⟩ := RpB.inv1 h2
  subst e2
  exact ⟨v, y, F, F', e, r, r2⟩
theorem RpB.inv3 {t u w : T} {vs : List V} (h : RpB C S H [t, u, w] vs) : ∃ x y z F F' F2, vs = [x, y, z] ∧ Rp C S H t x F ∧ Rp C S H u y F' ∧ Rp C S H w z F2 := by
  obtain ⟨v, ws, e, ⟨F, r⟩, h2⟩ := h
  obtain ⟨y, z, F', F2, e2, r2, r3⟩ := RpB.inv2 h2
  subst e2
  exact ⟨v, y, z, F, F', F2, e, r, r2, r3⟩
/-- an operator of two ints -/
theorem ok_int2 {o : Op} {f : Int → Int → Option T} {g : Value → Value → Sem Value} {r : R2} (e : opS o = int2 f) (ho : OpR X g r)
    (k : ∀ (i j : Int) (t : T), f i j = some t → ∃ x, (∀ S H, Rp C S H t x []) ∧ ∀ (H : Hp) (Q : VK), Q x H → r (.int i) (.int j) H Q) : OpR X g (r2 C o) := by
  intro pins s σ H x y v u Q I rx ry h
  obtain ⟨S, ts, t, hr, hf, hd, h0, hq⟩ := h
  rw [e] at h0
  obtain ⟨i, j, rfl, h1⟩ := int2_of h0
  obtain ⟨x', y', F, F', e2, ra, rb⟩ := hr.inv2
  cases e2
  obtain ⟨z, hz, q⟩ := k i j t h1
  refine ho pins s σ H x y v u Q I rx ry ?_
  rw [ra.1, rb.1]
  exact q H Q (rq hq (hz S H))
theorem rp_i {i : Int} : ∀ (S : Addr → Prop) (H : Hp), Rp C S H (.int i) (.int i) [] := fun _ _ => ⟨rfl, rfl⟩
theorem rp_b {b : Bool} : ∀ (S : Addr → Prop) (H : Hp), Rp C S H (.bl b) (.bl b) [] := fun _ _ => ⟨rfl, rfl⟩
theorem rp_s {z : Str} : ∀ (S : Addr → Prop) (H : Hp), Rp C S H (.str z) (.str z) [] := fun _ _ => ⟨rfl, rfl⟩
theorem ok_add : OpR X (binaryOp .Add) (r2 C .add) := by
  intro pins s σ H x y v u Q I rx ry h
  obtain ⟨S, ts, t, hr, hf, hd, ho, hq⟩ := h
  replace ho : addS ts = some t := ho
  unfold addS at ho
  split at ho
  · rename_i i j
    obtain rfl := Option.some.inj ho
    obtain ⟨x', y', F, F', e2, ra, rb⟩ := hr.inv2
    cases e2
    exact op_add pins s σ H x y v u Q I rx ry ⟨i, j, ra.1, rb.1, rq hq (rp_i S H)⟩
  · rename_i i j
    split at ho
    · rename_i hl
      obtain rfl := Option.some.inj ho
      obtain ⟨x', y', F, F', e2, ra, rb⟩ := hr.inv2
      cases e2
      exact op_add_str pins s σ H x y v u Q I rx ry ⟨i, j, ra.1, rb.1, hl, rq hq (rp_s S H)⟩
    · cases ho
  · rename_i o xs o' ys
    split at ho
    · rename_i hl
      obtain rfl := Option.some.inj ho
      obtain ⟨x', y', F, F', e2, ra, rb⟩ := hr.inv2
      cases e2
      obtain ⟨p, vs, ex, hp, kx⟩ := ra.kids (hf _ (by simp))
      obtain ⟨q, ws, ey, hq', ky⟩ := rb.kids (hf _ (by simp))
      have l1 := kx.length
      have l2 := ky.length
      refine op_cat pins s σ H x y v u Q I rx ry ⟨p, q, vs, ws, ex, ey, hp, hq', by omega, fun l hl => ?_⟩
      obtain ⟨z1, z2, z3, z4⟩ := rp_new (RpL.append (F := []) (G := []) kx ky) hd hl
      exact hq _ _ _ z1 z2 z3 z4
    · cases ho
  · cases ho
theorem ok_mul : OpR X (binaryOp .Mult) (r2 C .mul) := by
  intro pins s σ H x y v u Q I rx ry h
  obtain ⟨S, ts, t, hr, hf, hd, ho, hq⟩ := h
  replace ho : mulS ts = some t := ho
  unfold mulS at ho
  split at ho
  · rename_i i j
    split at ho
    · rename_i hl
      obtain rfl := Option.some.inj ho
      obtain ⟨x', y', F, F', e2, ra, rb⟩ := hr.inv2
      cases e2
      exact op_mulW pins s σ H x y v u Q I rx ry ⟨i, j, ra.1, rb.1, (by simpa [bigMul, CMulW] using hl), rq hq (rp_i S H)⟩
    · cases ho
  · rename_i o xs k
    split at ho
    · rename_i hl
      obtain rfl := Option.some.inj ho
      obtain ⟨x', y', F, F', e2, ra, rb⟩ := hr.inv2
      cases e2
      obtain ⟨p, vs, ex, hp, kx⟩ := ra.kids (hf _ (by simp))
      refine op_rep pins s σ H x y v u Q I rx ry ⟨p, k, vs, ex, rb.1, hp, hl.2.1, hl.2.2, by rw [kx.length]; exact hl.1, fun l hl => ?_⟩
      obtain ⟨z1, z2, z3, z4⟩ := rp_new (kx.rep k.toNat) hd hl
      exact hq _ _ _ z1 z2 z3 z4
    · cases ho
  · cases ho
theorem some_int {a : Int} {t : T} (h : some (T.int a) = some t) : t = .int a := (Option.some.inj h).symm
theorem ok_sub : OpR X (binaryOp .Sub) (r2 C .sub) := ok_int2 rfl op_sub fun i j t h => by
  cases h
  exact ⟨_, rp_i, fun H Q q => ⟨i, j, rfl, rfl, q⟩⟩
theorem ok_fdiv : OpR X (binaryOp .FloorDiv) (r2 C .fdiv) := ok_int2 rfl op_fdivW fun i j t h => by
  split at h
  · rename_i hl
    cases h
    have hl' : (0 < j) ∧ j.natAbs.log2 < 9000 := by simpa [okDiv] using hl
    exact ⟨_, rp_i, fun H Q q => ⟨i, j, rfl, rfl, hl', q⟩⟩
  · cases h
theorem ok_mod : OpR X (binaryOp .Mod) (r2 C .mod) := ok_int2 rfl op_mod fun i j t h => by
  split at h
  · rename_i hl
    cases h
    exact ⟨_, rp_i, fun H Q q => ⟨i, j, rfl, rfl, hl, q⟩⟩
  · cases h
theorem op_powW : OpR X (binaryOp .Pow) (rI (fun i j => 0 ≤ j ∧ (Builtin.Int.intBits i : Int) * j ≤ 2 ^ 27) fun i j => .int (i ^ j.toNat)) := opI fun _ _ _ _ _ _ _ hc q => PyProof.Rows.pow_int hc.1 hc.2 q
theorem ok_pow : OpR X (binaryOp .Pow) (r2 C .pow) := ok_int2 rfl op_powW fun i j t h => by
  split at h
  · rename_i hl
    cases h
    exact ⟨_, rp_i, fun H Q q => ⟨i, j, rfl, rfl, hl, q⟩⟩
  · cases h
theorem ok_neg : UnR X (unaryOp .USub) (r1 C .neg) := by
  intro pins s σ H x v Q I rx h
  obtain ⟨S, ts, t, hr, hf, hd, ho, hq⟩ := h
  obtain ⟨i, rfl, h1⟩ := int1_of ho
  cases h1
  obtain ⟨x', F, e, ra⟩ := hr.inv1
  cases e
  exact un_neg pins s σ H x v Q I rx ⟨i, ra.1, rq hq (rp_i S H)⟩
theorem cmp2_of {f : Int → Int → Bool} {h : Str → Str → Bool} {ts : List T} {t : T} (q : cmp2 f h ts = some t) : (∃ a b, ts = [.int a, .int b] ∧ t = .bl (f a b)) ∨ ∃ a b, ts = [.str a, .str b] ∧ t = .bl (h a b) := by
  unfold cmp2 at q
  split at q
  · cases q; exact .inl ⟨_, _, rfl, rfl⟩
  · cases q; exact .inr ⟨_, _, rfl, rfl⟩
  · cases q
/-- an order of ints or of texts -/
theorem ok_cmp2 {o : Op} {f : Int → Int → Bool} {h : Str → Str → Bool} {g : Value → Value → Sem Value} {r r' : R2} (e : opS o = cmp2 f h) (ho : OpR X g r) (ho' : OpR X g r')
    (k : ∀ (i j : Int) (H : Hp) (Q : VK), Q (.bl (f i j)) H → r (.int i) (.int j) H Q) (k' : ∀ (i j : Str) (H : Hp) (Q : VK), Q (.bl (h i j)) H → r' (.str i) (.str j) H Q) : OpR X g (r2 C o) := by
  intro pins s σ H x y v u Q I rx ry hh
  obtain ⟨S, ts, t, hr, hf, hd, h0, hq⟩ := hh
  rw [e] at h0
  rcases cmp2_of h0 with ⟨i, j, rfl, rfl⟩ | ⟨i, j, rfl, rfl⟩
  · obtain ⟨x', y', F, F', e2, ra, rb⟩ := hr.inv2
    cases e2
    refine ho pins s σ H x y v u Q I rx ry ?_
    rw [ra.1, rb.1]
    exact k i j H Q (rq hq (rp_b S H))
  · obtain ⟨x', y', F, F', e2, ra, rb⟩ := hr.inv2
    cases e2
    refine ho' pins s σ H x y v u Q I rx ry ?_
    rw [ra.1, rb.1]
    exact k' i j H Q (rq hq (rp_b S H))
theorem ok_lt : OpR X (compareOp .Lt) (r2 C .lt) := ok_cmp2 rfl op_lt op_lt_str (fun i j H Q q => ⟨i, j, rfl, rfl, q⟩) fun i j H Q q => ⟨i, j, rfl, rfl, q⟩
theorem ok_le : OpR X (compareOp .LtE) (r2 C .le) := ok_cmp2 rfl op_le op_le_str (fun i j H Q q => ⟨i, j, rfl, rfl, q⟩) fun i j H Q q => ⟨i, j, rfl, rfl, q⟩
theorem ok_gt : OpR X (compareOp .Gt) (r2 C .gt) := ok_cmp2 rfl op_gt op_gt_str (fun i j H Q q => ⟨i, j, rfl, rfl, q⟩) fun i j H Q q => ⟨i, j, rfl, rfl, q⟩
theorem ok_ge : OpR X (compareOp .GtE) (r2 C .ge) := ok_cmp2 rfl op_ge op_ge_str (fun i j H Q q => ⟨i, j, rfl, rfl, q⟩) fun i j H Q q => ⟨i, j, rfl, rfl, q⟩
mutual
theorem Rp.dp : ∀ (t : T) (x : V) (F : List Addr), t.data = true → Rp C S H t x F → Dp C.K H x t.toD
  | .non, x, F, _, h => by rw [h.1]; exact .non
  | .bl b, x, F, _, h => by rw [h.1]; exact .bl b
  | .int i, x, F, _, h => by rw [h.1]; exact .int i
  | .str z, x, F, _, h => by rw [h.1]; exact .str z
  | .lst o xs, x, F, hd, ⟨a, vs, F', ex, ha, hr, _⟩ => by rw [ex]; exact .lst (.of ha) (RpL.dp xs vs F' (by simpa [T.data] using hd) hr)
  | .tup xs, x, F, hd, ⟨a, vs, ex, ha, hr⟩ => by rw [ex]; exact .tup (.of ha) (RpL.dp xs vs F (by simpa [T.data] using hd) hr)
theorem RpL.dp : ∀ (ts : List T) (vs : List V) (F : List Addr), T.dataL ts = true → RpL C S H ts vs F → DpAll C.K H vs (T.toDL ts)
  | [], vs, F, _, h => by rw [h.1]; exact .nil
  | t :: ts, vs, F, hd, ⟨v, ws, F1, F2, e, eF, h1, h2⟩ => by
    have hd' : t.data = true ∧ T.dataL ts = true := by simpa [T.dataL] using hd
    rw [e]
    exact .cons (Rp.dp t v F1 hd'.1 h1) (RpL.dp ts ws F2 hd'.2 h2)
end
theorem eqT_dp {a b : T} {x y : V} {Fa Fb : List Addr} {r : Bool} (ra : Rp C S H a x Fa) (rb : Rp C S H b y Fb) (h : eqT a b = some r) :
    (scal x y = true ∧ r = decide (x = y)) ∨ ∃ d e, Dp C.K H x d ∧ Dp C.K H y e ∧ SeqAt.shaped d = true ∧ SeqAt.shaped e = true ∧ r = PyData.eqv d e := by
  have gen : ∀ {a b : T}, Rp C S H a x Fa → Rp C S H b y Fb → (if cmpOk a b then some (PyData.eqv a.toD b.toD) else none) = some r → ∃ d e, Dp C.K H x d ∧ Dp C.K H y e ∧ SeqAt.shaped d = true ∧ SeqAt.shaped e = true ∧ r = PyData.eqv d e := by
    intro a b ra rb h
    split at h
    · rename_i hc
      obtain rfl := Option.some.inj h
      unfold cmpOk at hc
      simp only [Bool.and_eq_true] at hc
      obtain ⟨⟨⟨h1, h2⟩, h3⟩, h4⟩ := hc
      exact ⟨_, _, Rp.dp a x Fa h1 ra, Rp.dp b y Fb h2 rb, h3, h4, rfl⟩
    · cases h
  cases a <;> cases b <;> first
    | exact .inr (gen ra rb h)
    | (obtain rfl := Option.some.inj h
       refine .inl ?_
       rw [ra.1, rb.1]
       exact ⟨rfl, by simp⟩)
theorem ok_eq (hK : C.K = X.K) (hu : X.A.units + 64 < cLine) : OpR X (compareOp .Eq) (r2 C .eq) := by
  intro pins s σ H x y v u Q I rx ry h
  obtain ⟨S, ts, t, hr, hf, hd, ho, hq⟩ := h
  obtain ⟨a, b, rfl, ho⟩ := two2_of ho
  obtain ⟨x', y', F, F', e2, ra, rb⟩ := hr.inv2
  cases e2
  obtain ⟨r, hr2, rfl⟩ := Option.map_eq_some_iff.mp ho
  have q := rq (C := C) (S := S) (H := H) (x := .bl r) hq ⟨rfl, rfl⟩
  rcases eqT_dp ra rb hr2 with ⟨h1, h2⟩ | ⟨d, e, h1, h2, h3, h4, h5⟩
  · exact op_eq pins s σ H x y v u Q I rx ry ⟨h1, h2 ▸ q⟩
  · exact op_eqD hu pins s σ H x y v u Q I rx ry ⟨d, e, hK ▸ h1, hK ▸ h2, h3, h4, h5 ▸ q⟩
theorem ok_ne (hK : C.K = X.K) (hu : X.A.units + 64 < cLine) : OpR X (compareOp .NotEq) (r2 C .ne) := by
  intro pins s σ H x y v u Q I rx ry h
  obtain ⟨S, ts, t, hr, hf, hd, ho, hq⟩ := h
  obtain ⟨a, b, rfl, ho⟩ := two2_of ho
  obtain ⟨x', y', F, F', e2, ra, rb⟩ := hr.inv2
  cases e2
  obtain ⟨r, hr2, rfl⟩ := Option.map_eq_some_iff.mp ho
  have q := rq (C := C) (S := S) (H := H) (x := .bl (!r)) hq ⟨rfl, rfl⟩
  rcases eqT_dp ra rb hr2 with ⟨h1, h2⟩ | ⟨d, e, h1, h2, h3, h4, h5⟩
  · exact op_ne pins s σ H x y v u Q I rx ry ⟨h1, h2 ▸ q⟩
  · exact op_neD hu pins s σ H x y v u Q I rx ry ⟨d, e, hK ▸ h1, hK ▸ h2, h3, h4, h5 ▸ q⟩
theorem isN_v {a : T} {x : V} {F : List Addr} (h : Rp C S H a x F) : a.isNon = decide (x = .non) := by
  cases a with
  | non => rw [h.1] <;> rfl
  | bl b => rw [h.1] <;> rfl
  | int b => rw [h.1] <;> rfl
  | str b => rw [h.1] <;> rfl
  | scr ns =>
    obtain ⟨_, p, e, _⟩ := h
    subst e; rfl
  | dic ns =>
    obtain ⟨_, p, _, e, _⟩ := h
    subst e; rfl
  | lst o xs =>
    obtain ⟨p, _, _, e, _⟩ := h
    subst e; rfl
  | tup xs =>
    obtain ⟨p, _, e, _⟩ := h
    subst e; rfl
  | exc c fs =>
    obtain ⟨_, p, _, _, _, _, e, _⟩ := h
    subst e; rfl
theorem ok_isN {x : V} {Q : VK} (h : rOp C .isN [x] H Q) : Q (.bl (decide (x = .non))) H := by
  obtain ⟨S, ts, t, hr, hf, hd, ho, hq⟩ := h
  obtain ⟨a, rfl, h1⟩ := one1_of ho
  obtain ⟨x', F, e, ra⟩ := hr.inv1
  cases e
  cases h1
  rw [isN_v ra] at hq
  exact rq hq (rp_b S H)
theorem ok_notN {x : V} {Q : VK} (h : rOp C .notN [x] H Q) : Q (.bl (!decide (x = .non))) H := by
  obtain ⟨S, ts, t, hr, hf, hd, ho, hq⟩ := h
  obtain ⟨a, rfl, h1⟩ := one1_of ho
  obtain ⟨x', F, e, ra⟩ := hr.inv1
  cases e
  cases h1
  rw [isN_v ra] at hq
  exact rq hq (rp_b S H)
/-- built-ins by name -/
theorem ok_len (hK : C.K = X.K) : CallR X (.builtin "len") (rOp C .len) := by
  intro pins s σ H xs us Q I r h
  obtain ⟨S, ts, t, hr, hf, hd, ho, hq⟩ := h
  replace ho : lenS ts = some t := ho
  unfold lenS at ho
  split at ho
  · cases ho
    obtain ⟨x, F, rfl, rx⟩ := hr.inv1
    obtain ⟨p, vs, ex, hp, kx⟩ := rx.kids (hf _ (by simp))
    exact call_len_seq pins s σ H _ us Q I r ⟨p, vs, by rw [ex], .inl (.of hp), rq hq ⟨by rw [kx.length], rfl⟩⟩
  · cases ho
    obtain ⟨x, F, rfl, rx⟩ := hr.inv1
    obtain ⟨p, vs, ex, hp, kx⟩ := rx.kidsT (hf _ (by simp))
    exact call_len_seq pins s σ H _ us Q I r ⟨p, vs, by rw [ex], .inr (.of hp), rq hq ⟨by rw [kx.length], rfl⟩⟩
  · rename_i z
    split at ho
    · rename_i hl
      cases ho
      obtain ⟨x, F, rfl, rx⟩ := hr.inv1
      exact call_len_str pins s σ H _ us Q I r ⟨z, by rw [rx.1], hl, rq hq (rp_i S H)⟩
    · cases ho
  · cases ho
theorem ok_abs : CallR X (.builtin "abs") (rOp C .abs) := by
  intro pins s σ H xs us Q I r h
  obtain ⟨S, ts, t, hr, hf, hd, ho, hq⟩ := h
  obtain ⟨i, rfl, h1⟩ := int1_of ho
  cases h1
  obtain ⟨x, F, rfl, rx⟩ := hr.inv1
  exact call_abs pins s σ H _ us Q I r ⟨i, by rw [rx.1], rq hq (rp_i S H)⟩
theorem ok_toInt : CallR X (.type "int") (rOp C .toInt) := by
  intro pins s σ H xs us Q I r h
  obtain ⟨S, ts, t, hr, hf, hd, ho, hq⟩ := h
  replace ho : toIntS ts = some t := ho
  unfold toIntS at ho
  split at ho
  · cases ho
    obtain ⟨x, F, rfl, rx⟩ := hr.inv1
    exact call_int1 pins s σ H _ us Q I r (.inl ⟨_, by rw [rx.1], rq hq (rp_i S H)⟩)
  · cases ho
    obtain ⟨x, F, rfl, rx⟩ := hr.inv1
    exact call_int1 pins s σ H _ us Q I r (.inr ⟨_, by rw [rx.1], rq hq (rp_i S H)⟩)
  · cases ho
theorem ok_min2 (hc : X.calm = true) : CallR X (.builtin "min") (rOp C .min2) := by
  intro pins s σ H xs us Q I r h
  obtain ⟨S, ts, t, hr, hf, hd, ho, hq⟩ := h
  obtain ⟨i, j, rfl, h1⟩ := int2_of ho
  cases h1
  obtain ⟨x, y, F, F', rfl, rx, ry⟩ := hr.inv2
  exact call_min2 hc pins s σ H _ us Q I r ⟨i, j, by rw [rx.1, ry.1], rq hq (rp_i S H)⟩
theorem ok_max2 (hc : X.calm = true) : CallR X (.builtin "max") (rOp C .max2) := by
  intro pins s σ H xs us Q I r h
  obtain ⟨S, ts, t, hr, hf, hd, ho, hq⟩ := h
  obtain ⟨i, j, rfl, h1⟩ := int2_of ho
  cases h1
  obtain ⟨x, y, F, F', rfl, rx, ry⟩ := hr.inv2
  exact call_max2 hc pins s σ H _ us Q I r ⟨i, j, by rw [rx.1, ry.1], rq hq (rp_i S H)⟩
theorem ok_toList (hK : C.K = X.K) : CallR X (.type "list") (rOp C .toList) := by
  intro pins s σ H xs us Q I r h
  obtain ⟨S, ts, t, hr, hf, hd, ho, hq⟩ := h
  replace ho : toListS ts = some t := ho
  unfold toListS at ho
  split at ho
  · cases ho
    obtain ⟨x, F, rfl, rx⟩ := hr.inv1
    obtain ⟨p, vs, ex, hp, kx⟩ := rx.kids (hf _ (by simp))
    refine call_list_of pins s σ H _ us Q I r ⟨p, vs, by rw [ex], .inl (.of hp), fun l hl => ?_⟩
    obtain ⟨z1, z2, z3, z4⟩ := rp_new kx hd hl
    exact hq _ _ _ z1 z2 z3 z4
  · cases ho
    obtain ⟨x, F, rfl, rx⟩ := hr.inv1
    obtain ⟨p, vs, ex, hp, kx⟩ := rx.kidsT (hf _ (by simp))
    refine call_list_of pins s σ H _ us Q I r ⟨p, vs, by rw [ex], .inr (.of hp), fun l hl => ?_⟩
    obtain ⟨z1, z2, z3, z4⟩ := rp_new kx hd hl
    exact hq _ _ _ z1 z2 z3 z4
  · rename_i ns
    cases ho
    obtain ⟨x, F, rfl, _, p, ex, hp⟩ := hr.inv1
    have hp' := hp.sq
    rw [hK] at hp'
    refine call_list_of pins s σ H _ us Q I r ⟨p, ns.map V.int, by rw [ex], .inl hp', fun l hl => ?_⟩
    obtain ⟨z1, z2, z3, z4⟩ := rp_new (C := C) (RpL.ints ns) hd hl
    exact hq _ _ _ z1 z2 z3 z4
  · cases ho
theorem ok_toTup (hK : C.K = X.K) : CallR X (.type "tuple") (rOp C .toTup) := by
  intro pins s σ H xs us Q I r h
  obtain ⟨S, ts, t, hr, hf, hd, ho, hq⟩ := h
  replace ho : toTupS ts = some t := ho
  unfold toTupS at ho
  split at ho
  · cases ho
    obtain ⟨x, F, rfl, rx⟩ := hr.inv1
    obtain ⟨p, vs, ex, hp, kx⟩ := rx.kids (hf _ (by simp))
    refine call_tuple_of pins s σ H _ us Q I r ⟨p, vs, by rw [ex], .inl ⟨.of hp, fun l hl => ?_⟩⟩
    obtain ⟨z1, z2, z3, z4⟩ := rp_newT kx hl
    exact hq _ _ _ z1 z2 z3 z4
  · cases ho
/-- xs[i] -/
theorem atI_rel {xs : List T} {vs : List V} {i : Int} {t : T} (k : RpL C S H xs vs []) (h : atI xs i = some t) : ∃ v, atI vs i = some v ∧ Rp C S H t v [] := by
  unfold atI at h ⊢
  rw [k.length]
  cases e : ixN xs.length i with
  | none => rw [e] at h; cases h
  | some j =>
    rw [e] at h
    obtain ⟨v, F, a, b, c⟩ := RpL.get (i := j) k h
    have e : F = [] := by
      cases F with
      | nil => rfl
      | cons q r => exact absurd (c q List.mem_cons_self) (by simp)
    subst e
    exact ⟨v, a, b⟩
theorem ok_idx (hK : C.K = X.K) : IxR X (r2 C .idx) := by
  intro value slice pins s σ H x y v u Q I rx ry h hsub
  obtain ⟨S, ts, t, hr, hf, hd, ho, hq⟩ := h
  replace ho : idxS ts = some t := ho
  unfold idxS at ho
  split at ho
  · obtain ⟨x', y', F, F', e2, ra, rb⟩ := hr.inv2
    cases e2
    obtain ⟨p, vs, ex, hp, kx⟩ := ra.kids (hf _ (by simp))
    obtain ⟨w, e, rw'⟩ := atI_rel kx ho
    exact ix_list value slice pins s σ H x y v u Q I rx ry ⟨p, vs, _, w, ex, rb.1, .of hp, e, rq hq rw'⟩ hsub
  · obtain ⟨x', y', F, F', e2, ra, rb⟩ := hr.inv2
    cases e2
    obtain ⟨p, vs, ex, hp, kx⟩ := ra.kidsT (hf _ (by simp))
    obtain ⟨w, e, rw'⟩ := atI_rel kx ho
    exact ix_tup value slice pins s σ H x y v u Q I rx ry ⟨p, vs, _, w, ex, rb.1, .of hp, e, rq hq rw'⟩ hsub
  · rename_i z i
    split at ho
    · rename_i hl
      obtain ⟨c, hc, rfl⟩ := Option.map_eq_some_iff.mp ho
      obtain ⟨x', y', F, F', e2, ra, rb⟩ := hr.inv2
      cases e2
      exact ix_str value slice pins s σ H x y v u Q I rx ry ⟨z, i, c, ra.1, rb.1, hl, hc, rq hq (rp_s S H)⟩ hsub
    · cases ho
  · cases ho
theorem cut_rel {xs : List T} {vs : List V} (k : RpL C S H xs vs []) (lo hi : Option Int) : RpL C S H (cutT xs lo hi) (cutV vs lo hi) [] := by
  unfold cutT cutV
  rw [k.length]
  exact (k.drop _).take _
/-- isinstance(x, T) -/
theorem isT_of {n : String} {t : T} {x : V} {F : List Addr} {b : Bool} (h : Rp C S H t x F) (e : isTy n t = some b) (hn : n = "int" ∨ n = "bool" ∨ n = "str" ∨ n = "list" ∨ n = "tuple") :
    ∃ tv, TyX C.K H x tv ∧ PySem.W.kitOne C.K tv (.type n) = some b := by
  cases t with
  | non =>
    obtain rfl := Option.some.inj e
    refine ⟨.type "NoneType", .base (by rw [h.1]; exact .non), ?_⟩
    rcases hn with h | h | h | h | h <;> subst h <;> exact kit_ty (by decide +kernel)
  | bl k =>
    obtain rfl := Option.some.inj e
    refine ⟨.type "bool", .base (by rw [h.1]; exact .bl k), ?_⟩
    rcases hn with h | h | h | h | h <;> subst h <;> exact kit_ty (by decide +kernel)
  | int k =>
    obtain rfl := Option.some.inj e
    refine ⟨.type "int", .base (by rw [h.1]; exact .int k), ?_⟩
    rcases hn with h | h | h | h | h <;> subst h <;> exact kit_ty (by decide +kernel)
  | str k =>
    obtain rfl := Option.some.inj e
    refine ⟨.type "str", .base (by rw [h.1]; exact .str k), ?_⟩
    rcases hn with h | h | h | h | h <;> subst h <;> exact kit_ty (by decide +kernel)
  | scr ns => cases e
  | dic ns => cases e
  | lst o xs =>
    obtain rfl := Option.some.inj e
    obtain ⟨p, vs, F', ex, hp, _⟩ := h
    refine ⟨.type "list", .base (by rw [ex]; exact .lst hp), ?_⟩
    rcases hn with h | h | h | h | h <;> subst h <;> exact kit_ty (by decide +kernel)
  | tup xs =>
    obtain rfl := Option.some.inj e
    obtain ⟨p, vs, ex, hp, _⟩ := h
    refine ⟨.type "tuple", .base (by rw [ex]; exact .tup hp), ?_⟩
    rcases hn with h | h | h | h | h <;> subst h <;> exact kit_ty (by decide +kernel)
  | exc c fs => cases e
theorem ok_isT {n : String} (hK : C.K = X.K) (hn : n = "int" ∨ n = "bool" ∨ n = "str" ∨ n = "list" ∨ n = "tuple") : CallR X (.builtin "isinstance") (fun xs H Q => ∃ x, xs = [x, .ty n] ∧ rOp C (.isT n) [x] H Q) := by
  intro pins s σ H xs us Q I r h
  obtain ⟨x, rfl, S, ts, t, hr, hf, hd, ho, hq⟩ := h
  obtain ⟨a, rfl, ho⟩ := one1_of ho
  obtain ⟨x', F, e, ra⟩ := hr.inv1
  cases e
  obtain ⟨b, e, rfl⟩ := Option.map_eq_some_iff.mp ho
  obtain ⟨tv, h1, h2⟩ := isT_of ra e hn
  rw [hK] at h1 h2
  exact call_isi pins s σ H _ us Q I r ⟨x, .ty n, tv, .type n, b, rfl, .ty n, h1, h2, rq hq (rp_b S H)⟩
/-- slices of lists -/
theorem slice_fin {lo hi : Option Int} {x : V} {Q : VK} {o : Bool} {xs : List T} {F : List Addr} {t : T} (hd : ∀ a, S a → ∃ ys, H a = some (.lst ys)) (hq : ∀ x H' F1, Same H H' → (∀ b ∈ F1, H b = none) → F1.Nodup → Rp C S H' t x F1 → Q x H')
    (rx : Rp C S H (.lst o xs) x F) (hk : (T.lst o xs).fk = .lst o xs) (e : t = .lst true (cutT xs lo hi)) : rSlL X.K x lo hi H Q := by
  subst e
  obtain ⟨p, vs, ex, hp, kx⟩ := rx.kids hk
  refine ⟨p, vs, ex, .of hp, fun l hl => ?_⟩
  obtain ⟨z1, z2, z3, z4⟩ := rp_new (cut_rel kx lo hi) hd hl
  exact hq _ _ _ z1 z2 z3 z4
theorem ok_slice0 {x : V} {Q : VK} (h : rOp C (.slice false false) [x] H Q) : (rSlL X.K x none none H Q ∨ rSlS x none none H Q) := by
  obtain ⟨S, ts, t, hr, hf, hd, ho, hq⟩ := h
  replace ho : sl0 ts = some t := ho
  unfold sl0 at ho
  split at ho
  · cases ho
    obtain ⟨x', F, e, ra⟩ := hr.inv1
    cases e
    exact .inl (slice_fin hd hq ra (hf _ (by simp)) rfl)
  · split at ho
    · rename_i hl
      cases ho
      obtain ⟨x', F, e, ra⟩ := hr.inv1
      cases e
      exact .inr ⟨_, ra.1, hl, rq hq (rp_s S H)⟩
    · cases ho
  · cases ho
theorem ok_sliceL {x y : V} {Q : VK} (h : rOp C (.slice true false) [x, y] H Q) : ∃ i, y = .int i ∧ (rSlL X.K x (some i) none H Q ∨ rSlS x (some i) none H Q) := by
  obtain ⟨S, ts, t, hr, hf, hd, ho, hq⟩ := h
  replace ho : slLo ts = some t := ho
  unfold slLo at ho
  split at ho
  · cases ho
    obtain ⟨x', y', F, F', e, ra, rb⟩ := hr.inv2
    cases e
    exact ⟨_, rb.1, .inl (slice_fin hd hq ra (hf _ (by simp)) rfl)⟩
  · split at ho
    · rename_i hl
      cases ho
      obtain ⟨x', y', F, F', e, ra, rb⟩ := hr.inv2
      cases e
      exact ⟨_, rb.1, .inr ⟨_, ra.1, hl, rq hq (rp_s S H)⟩⟩
    · cases ho
  · cases ho
theorem ok_sliceH {x y : V} {Q : VK} (h : rOp C (.slice false true) [x, y] H Q) : ∃ i, y = .int i ∧ (rSlL X.K x none (some i) H Q ∨ rSlS x none (some i) H Q) := by
  obtain ⟨S, ts, t, hr, hf, hd, ho, hq⟩ := h
  replace ho : slHi ts = some t := ho
  unfold slHi at ho
  split at ho
  · cases ho
    obtain ⟨x', y', F, F', e, ra, rb⟩ := hr.inv2
    cases e
    exact ⟨_, rb.1, .inl (slice_fin hd hq ra (hf _ (by simp)) rfl)⟩
  · split at ho
    · rename_i hl
      cases ho
      obtain ⟨x', y', F, F', e, ra, rb⟩ := hr.inv2
      cases e
      exact ⟨_, rb.1, .inr ⟨_, ra.1, hl, rq hq (rp_s S H)⟩⟩
    · cases ho
  · cases ho
theorem ok_slice2 {x y z : V} {Q : VK} (h : rOp C (.slice true true) [x, y, z] H Q) : ∃ i j, y = .int i ∧ z = .int j ∧ (rSlL X.K x (some i) (some j) H Q ∨ rSlS x (some i) (some j) H Q) := by
  obtain ⟨S, ts, t, hr, hf, hd, ho, hq⟩ := h
  replace ho : sl2 ts = some t := ho
  unfold sl2 at ho
  split at ho
  · cases ho
    obtain ⟨x', y', z', F, F', F2, e, ra, rb, rc⟩ := hr.inv3
    cases e
    exact ⟨_, _, rb.1, rc.1, .inl (slice_fin hd hq ra (hf _ (by simp)) rfl)⟩
  · split at ho
    · rename_i hl
      cases ho
      obtain ⟨x', y', z', F, F', F2, e, ra, rb, rc⟩ := hr.inv3
      cases e
      exact ⟨_, _, rb.1, rc.1, .inr ⟨_, ra.1, hl, rq hq (rp_s S H)⟩⟩
    · cases ho
  · cases ho
theorem ok_dget {x y : V} {Q : VK} (h : rOp C .dget [x, y] H Q) : ∃ a v, x = .ref a ∧ DGet H a y (some v) ∧ Q v H := by
  obtain ⟨S, ts, t, hr, hf, hd, ho, hq⟩ := h
  replace ho : dgetS ts = some t := ho
  unfold dgetS at ho
  split at ho
  · rename_i kvs k
    obtain ⟨x', y', F, F', e2, ra, rb⟩ := hr.inv2
    cases e2
    obtain ⟨_, a, m, ex, hm, l⟩ := ra
    obtain ⟨c, ec, rfl⟩ := Option.map_eq_some_iff.mp ho
    refine ⟨a, c.v, ex, ?_, rq hq ?_⟩
    · have g := DGet.k (k := .inr k) hm
      rw [l k, ec] at g
      rw [rb.1]
      exact g
    · cases c <;> exact ⟨rfl, rfl⟩
  · cases ho
theorem dlk_merge : ∀ (kvs : List (Str × Sc)) (acc : List (Key × V)) (k : Str), valV (mergeK acc (kvs.map fun e => (.inr e.1, e.2.v))) (.inr k) = match dlk kvs k with
    | some c => some c.v
    | none => valV acc (.inr k)
  | [], acc, k => rfl
  | (a, c) :: r, acc, k => by
    show valV (mergeK (putK acc (.inr a) c.v) (r.map fun e => (.inr e.1, e.2.v))) (.inr k) = _
    rw [dlk_merge r _ k]
    have e : dlk ((a, c) :: r) k = match dlk r k with
      | some t => some t
      | none => if k = a then some c else none := rfl
    rw [e]
    cases dlk r k with
    | some d => rfl
    | none =>
      simp only
      rw [valV_put]
      by_cases h : k = a
      · subst h; simp
      · have : ¬ ((Sum.inr k : Key) = .inr a) := fun z => h (Sum.inr.inj z)
        simp [h]
theorem ok_dsp {kvs : List (Str × Sc)} {Q : VK} {p : Addr} {o : HO} (hp : H p = none) (h : rOp C (.dsp kvs) [] H Q) : Q (.ref p) (upd (upd H p o) p (.dK (mergeK [] (kvs.map fun e => (.inr e.1, e.2.v))))) := by
  obtain ⟨S, ts, t, hr, hf, hd, ho, hq⟩ := h
  cases ts with
  | cons u us =>
    replace ho : dspS kvs (u :: us) = some t := ho
    cases ho
  | nil =>
    replace ho : dspS kvs [] = some t := ho
    cases ho
    refine hq _ _ [] (fun b u e => ?_) (fun b hb => nomatch hb) List.nodup_nil ⟨rfl, p, _, rfl, upd_same, fun k => ?_⟩
    · have ne := ne_of_none e hp
      rw [upd_ne ne, upd_ne ne]
      exact e
    · rw [dlk_merge]
      cases dlk kvs k <;> rfl
/-! ### lists of ints, of truth values, of texts -/
theorem ints_rel : ∀ {xs : List T} {vs : List V} {F : List Addr} {ns : List Int}, RpL C S H xs vs F → intsT xs = some ns → vs = ns.map V.int ∧ xs = ns.map T.int
  | [], vs, F, ns, h, e => by
    cases e
    exact ⟨h.1, rfl⟩
  | t :: ts, vs, F, ns, ⟨v, ws, F1, F2, ev, _, r1, r2⟩, e => by
    cases t <;> first | (cases e; done) | skip
    rename_i i
    have e' : (intsT ts).map (i :: ·) = some ns := e
    obtain ⟨ms, em, rfl⟩ := Option.map_eq_some_iff.mp e'
    obtain ⟨q1, q2⟩ := ints_rel r2 em
    subst ev
    exact ⟨by rw [q1, r1.1]; rfl, by rw [q2]; rfl⟩
theorem bls_rel : ∀ {xs : List T} {vs : List V} {F : List Addr} {ns : List Bool}, RpL C S H xs vs F → blsT xs = some ns → vs = ns.map V.bl
  | [], vs, F, ns, h, e => by
    cases e
    exact h.1
  | t :: ts, vs, F, ns, ⟨v, ws, F1, F2, ev, _, r1, r2⟩, e => by
    cases t <;> first | (cases e; done) | skip
    rename_i i
    have e' : (blsT ts).map (i :: ·) = some ns := e
    obtain ⟨ms, em, rfl⟩ := Option.map_eq_some_iff.mp e'
    subst ev
    rw [bls_rel r2 em, r1.1]
    rfl
theorem strs_rel : ∀ {xs : List T} {vs : List V} {F : List Addr} {ns : List Str}, RpL C S H xs vs F → strsT xs = some ns → vs = ns.map V.str
  | [], vs, F, ns, h, e => by
    cases e
    exact h.1
  | t :: ts, vs, F, ns, ⟨v, ws, F1, F2, ev, _, r1, r2⟩, e => by
    cases t <;> first | (cases e; done) | skip
    rename_i i
    have e' : (strsT ts).map (i :: ·) = some ns := e
    obtain ⟨ms, em, rfl⟩ := Option.map_eq_some_iff.mp e'
    subst ev
    rw [strs_rel r2 em, r1.1]
    rfl
theorem lst1_of {α : Type} {f : List T → Option α} {k : α → Option T} {ts : List T} {t : T} (h : lst1 f k ts = some t) : ∃ o xs a, ts = [.lst o xs] ∧ f xs = some a ∧ k a = some t := by
  unfold lst1 at h
  split at h
  · rename_i o xs
    obtain ⟨a, h1, h2⟩ := Option.bind_eq_some_iff.mp h
    exact ⟨o, xs, a, rfl, h1, h2⟩
  · cases h
theorem ok_sumL (hK : C.K = X.K) (hc : X.calm = true) : CallR X (.builtin "sum") (rOp C .sumL) := by
  intro pins s σ H xs us Q I r h
  obtain ⟨S, ts, t, hr, hf, hd, ho, hq⟩ := h
  obtain ⟨o, zs, ns, rfl, h1, h2⟩ := lst1_of ho
  cases h2
  obtain ⟨x, F, rfl, rx⟩ := hr.inv1
  obtain ⟨p, vs, ex, hp, kx⟩ := rx.kids (hf _ (by simp))
  have e := (ints_rel kx h1).1
  subst e
  exact cr_sum hc pins s σ H _ us Q I r ⟨p, ns, by rw [ex], .of hp, rq hq (rp_i S H)⟩
def eqkB (v : Value) : Bool := match v with
  | .bool b => b
  | _ => false
def rCntB (K : PySem.W.Frag) : V → List V → Hp → VK → Prop := fun x xs H Q => ∃ (p : Addr) (bs : List Bool), x = .ref p ∧ xs = [.bl true] ∧ SqL K H p (bs.map V.bl) ∧ Q (.int (bs.count true : Nat)) H
theorem mt_lcountB : MtR X "list.count" (rCntB X.K) := by
  intro pins s σ H x xs v us Q I rx rxs h
  obtain ⟨p, bs, rfl, rfl, hs, q⟩ := h
  cases rx
  obtain ⟨u, rfl, ru⟩ := rxs.one
  obtain rfl : u = .bool true := ru
  obtain ⟨its, rv, ⟨⟨cls, dd, data, sl⟩, n, ho, hc, hdn, hd⟩, hlen⟩ := I.list hs
  simp only at hc hd
  subst hc hd
  have hb := rv.bls
  refine call_meets PySem.F.slot_list_count ⟨_, ho, rfl⟩ PySem.F.entry_list_count (PySem.F.args_list_count_2 _ _)
    (SeqAt.list_countAt p its.toArray n dd sl (.bool true) eqkB) ⟨ho, fun y hy => ?_, ?_⟩
  · have hy : y ∈ its := by simpa using hy
    rw [hb] at hy
    obtain ⟨b, _, rfl⟩ := List.mem_map.mp hy
    have e : eqkB (.bool b) = (b == true) := by cases b <;> rfl
    rw [e]
    exact SeqAt.EqAt.bool_bool b true
  have ec : its.toArray.toList.countP eqkB = bs.count true := by
    rw [hb]
    simp only [List.countP_map, List.count]
    exact List.countP_congr fun b _ => by cases b <;> rfl
  refine ⟨.int (bs.count true : Nat), H, I.tok _, ⟨s.toks, ?_⟩, q⟩
  show Value.int ((its.toArray.toList.countP eqkB : Nat) : Int) s.toks = Value.int ((bs.count true : Nat) : Int) s.toks
  rw [ec]
theorem ok_cntT {x : V} {Q : VK} (h : rOp C .cntT [x] H Q) : ∃ (p : Addr) (bs : List Bool), x = .ref p ∧ SqL C.K H p (bs.map V.bl) ∧ Q (.int (bs.count true : Nat)) H := by
  obtain ⟨S, ts, t, hr, hf, hd, ho, hq⟩ := h
  obtain ⟨o, zs, ns, rfl, h1, h2⟩ := lst1_of ho
  cases h2
  obtain ⟨x, F, e0, rx⟩ := hr.inv1
  cases e0
  obtain ⟨p, vs, ex, hp, kx⟩ := rx.kids (hf _ (by simp))
  have e := bls_rel kx h1
  subst e
  exact ⟨p, ns, ex, .of hp, rq hq (rp_i S H)⟩
theorem ok_anyL (hK : C.K = X.K) (hc : X.calm = true) : CallR X (.builtin "any") (rOp C .anyL) := by
  intro pins s σ H xs us Q I r h
  obtain ⟨S, ts, t, hr, hf, hd, ho, hq⟩ := h
  obtain ⟨o, zs, ns, rfl, h1, h2⟩ := lst1_of ho
  cases h2
  obtain ⟨x, F, rfl, rx⟩ := hr.inv1
  obtain ⟨p, vs, ex, hp, kx⟩ := rx.kids (hf _ (by simp))
  have e := bls_rel kx h1
  subst e
  exact cr_any hc pins s σ H _ us Q I r ⟨p, ns, by rw [ex], .of hp, rq hq (rp_b S H)⟩
theorem ok_allL (hK : C.K = X.K) (hc : X.calm = true) : CallR X (.builtin "all") (rOp C .allL) := by
  intro pins s σ H xs us Q I r h
  obtain ⟨S, ts, t, hr, hf, hd, ho, hq⟩ := h
  obtain ⟨o, zs, ns, rfl, h1, h2⟩ := lst1_of ho
  cases h2
  obtain ⟨x, F, rfl, rx⟩ := hr.inv1
  obtain ⟨p, vs, ex, hp, kx⟩ := rx.kids (hf _ (by simp))
  have e := bls_rel kx h1
  subst e
  exact cr_all hc pins s σ H _ us Q I r ⟨p, ns, by rw [ex], .of hp, rq hq (rp_b S H)⟩
theorem maxI_of {ns : List Int} {m : Int} (h : maxI ns = some m) : 0 < ns.length ∧ m ∈ ns ∧ ∀ y ∈ ns, y ≤ m := by
  cases ns with
  | nil => cases h
  | cons n ns =>
    cases h
    have key : ∀ (ns : List Int) (n : Int), ns.foldl (fun m x => if m < x then x else m) n ∈ n :: ns ∧ ∀ y ∈ n :: ns, y ≤ ns.foldl (fun m x => if m < x then x else m) n := by
      intro ns
      induction ns with
      | nil => intro n; exact ⟨List.mem_cons_self, fun y hy => by rw [List.mem_singleton.mp hy]; exact Int.le_refl _⟩
      | cons a ns ih =>
        intro n
        rw [List.foldl_cons]
        obtain ⟨i1, i2⟩ := ih (if n < a then a else n)
        have h0 := i2 _ List.mem_cons_self
        refine ⟨?_, fun y hy => ?_⟩
        · rcases List.mem_cons.mp i1 with e | e
          · rw [e]
            split
            · exact List.mem_cons_of_mem _ List.mem_cons_self
            · exact List.mem_cons_self
          · exact List.mem_cons_of_mem _ (List.mem_cons_of_mem _ e)
        · have hn : n ≤ (if n < a then a else n) := by split <;> omega
          have ha : a ≤ (if n < a then a else n) := by split <;> omega
          rcases List.mem_cons.mp hy with e | hy
          · rw [e]; exact Int.le_trans hn h0
          · rcases List.mem_cons.mp hy with e | hy
            · rw [e]; exact Int.le_trans ha h0
            · exact i2 y (List.mem_cons_of_mem _ hy)
    exact ⟨Nat.succ_pos _, key ns n⟩
theorem minI_of {ns : List Int} {m : Int} (h : minI ns = some m) : 0 < ns.length ∧ m ∈ ns ∧ ∀ y ∈ ns, m ≤ y := by
  cases ns with
  | nil => cases h
  | cons n ns =>
    cases h
    have key : ∀ (ns : List Int) (n : Int), ns.foldl (fun m x => if x < m then x else m) n ∈ n :: ns ∧ ∀ y ∈ n :: ns, ns.foldl (fun m x => if x < m then x else m) n ≤ y := by
      intro ns
      induction ns with
      | nil => intro n; exact ⟨List.mem_cons_self, fun y hy => by rw [List.mem_singleton.mp hy]; exact Int.le_refl _⟩
      | cons a ns ih =>
        intro n
        rw [List.foldl_cons]
        obtain ⟨i1, i2⟩ := ih (if a < n then a else n)
        have h0 := i2 _ List.mem_cons_self
        refine ⟨?_, fun y hy => ?_⟩
        · rcases List.mem_cons.mp i1 with e | e
          · rw [e]
            split
            · exact List.mem_cons_of_mem _ List.mem_cons_self
            · exact List.mem_cons_self
          · exact List.mem_cons_of_mem _ (List.mem_cons_of_mem _ e)
        · have hn : (if a < n then a else n) ≤ n := by split <;> omega
          have ha : (if a < n then a else n) ≤ a := by split <;> omega
          rcases List.mem_cons.mp hy with e | hy
          · rw [e]; exact Int.le_trans h0 hn
          · rcases List.mem_cons.mp hy with e | hy
            · rw [e]; exact Int.le_trans h0 ha
            · exact i2 y (List.mem_cons_of_mem _ hy)
    exact ⟨Nat.succ_pos _, key ns n⟩
theorem sortI_perm (ns : List Int) : (sortI ns).Perm ns := List.mergeSort_perm ns _
theorem sortI_sorted (ns : List Int) : (sortI ns).Pairwise (· ≤ ·) := by
  have h := List.pairwise_mergeSort (le := fun a b : Int => decide (a ≤ b)) (by intro a b c; simp; omega) (by intro a b; simp; omega) ns
  exact h.imp fun h => of_decide_eq_true h
theorem sortI_uniq {ns ms : List Int} (hp : ms.Perm ns) (hs : ms.Pairwise (· ≤ ·)) : ms = sortI ns :=
  List.Perm.eq_of_pairwise (fun a b _ _ h1 h2 => Int.le_antisymm h1 h2) hs (sortI_sorted ns) (hp.trans (sortI_perm ns).symm)
theorem rpl_ints (ns : List Int) (S : Addr → Prop) (H : Hp) : RpL C S H (ns.map T.int) (ns.map V.int) [] := by
  induction ns with
  | nil => exact ⟨rfl, rfl⟩
  | cons n ns ih => exact ⟨.int n, _, [], [], rfl, rfl, ⟨rfl, rfl⟩, ih⟩
theorem rpl_strs (ns : List Str) (S : Addr → Prop) (H : Hp) : RpL C S H (ns.map T.str) (ns.map V.str) [] := by
  induction ns with
  | nil => exact ⟨rfl, rfl⟩
  | cons n ns ih => exact ⟨.str n, _, [], [], rfl, rfl, ⟨rfl, rfl⟩, ih⟩
theorem leS_trans {a b c : Str} (h1 : leS a b = true) (h2 : leS b c = true) : leS a c = true := by
  unfold leS at *
  rw [PyProof.Rows.ltCps_eq] at *
  simp only [Bool.not_eq_true', decide_eq_false_iff_not] at *
  exact List.not_lt.mpr (List.le_trans (List.not_lt.mp h1) (List.not_lt.mp h2))
theorem leS_total (a b : Str) : (leS a b || leS b a) = true := by
  unfold leS
  rw [PyProof.Rows.ltCps_eq, PyProof.Rows.ltCps_eq]
  simp only [Bool.or_eq_true, Bool.not_eq_true', decide_eq_false_iff_not]
  by_cases h : b.cps.toList < a.cps.toList
  · exact .inr (List.not_lt.mpr (List.le_of_lt h))
  · exact .inl h
theorem leS_anti {a b : Str} (h1 : leS a b = true) (h2 : leS b a = true) : a = b := by
  unfold leS at *
  rw [PyProof.Rows.ltCps_eq] at *
  simp only [Bool.not_eq_true', decide_eq_false_iff_not] at *
  have e : a.cps.toList = b.cps.toList := List.le_antisymm (List.not_lt.mp h1) (List.not_lt.mp h2)
  cases a; cases b
  congr 1
  exact Array.toList_inj.mp e
theorem rising_pw : ∀ (l : List Str) (p : Str), PyProof.Rows.risingS p l = true → (p :: l).Pairwise fun a b => leS a b = true
  | [], p, _ => List.pairwise_singleton _ _
  | x :: r, p, h => by
    have h' : leS p x = true ∧ PyProof.Rows.risingS x r = true := by simpa [PyProof.Rows.risingS, leS] using h
    have ih := rising_pw r x h'.2
    refine List.pairwise_cons.mpr ⟨fun y hy => ?_, ih⟩
    rcases List.mem_cons.mp hy with e | hy
    · rw [e]; exact h'.1
    · exact leS_trans h'.1 ((List.pairwise_cons.mp ih).1 y hy)
theorem sortS_uniq {ns ms : List Str} (hp : ms.Perm ns) (hs : PyProof.Rows.sortedS ms = true) : ms = sortS ns := by
  have pw : ms.Pairwise fun a b => leS a b = true := by
    cases ms with
    | nil => exact List.Pairwise.nil
    | cons p l => exact rising_pw l p hs
  exact List.Perm.eq_of_pairwise (fun a b _ _ h1 h2 => leS_anti h1 h2) pw (List.pairwise_mergeSort (le := leS) (fun a b c h1 h2 => leS_trans h1 h2) leS_total ns) (hp.trans (List.mergeSort_perm ns _).symm)
section
open PyProof.Rows Srt SrtO
variable {prog : Program} {w : World} {A : Around} {s : Shared}
def ltSv (v u : Value) : Bool := decide ((PyProof.Rows.strOf v).cps.toList < (PyProof.Rows.strOf u).cps.toList)
theorem swo_str : Swo ltSv := by
  refine ⟨fun x y h => ?_, fun x y z h1 h2 => ?_⟩
  · have a := of_decide_eq_true (p := (PyProof.Rows.strOf x).cps.toList < (PyProof.Rows.strOf y).cps.toList) h
    exact decide_eq_false (p := (PyProof.Rows.strOf y).cps.toList < (PyProof.Rows.strOf x).cps.toList) (List.not_lt.mpr (List.le_of_lt a))
  · have a := of_decide_eq_false (p := (PyProof.Rows.strOf y).cps.toList < (PyProof.Rows.strOf x).cps.toList) h1
    have b := of_decide_eq_false (p := (PyProof.Rows.strOf z).cps.toList < (PyProof.Rows.strOf y).cps.toList) h2
    exact decide_eq_false (p := (PyProof.Rows.strOf z).cps.toList < (PyProof.Rows.strOf x).cps.toList) (List.not_lt.mpr (List.le_trans (List.not_lt.mp a) (List.not_lt.mp b)))
theorem str_cmp {vs : List Value} {ss : List Str} (hI : StrsAre vs ss) : Cmp prog w A s oneType' (fun p => p.1 ∈ vs) (lt2 ltSv) := by
  intro p q hm hm'
  obtain ⟨a, t, e⟩ := hI.all _ hm
  obtain ⟨b, u, e'⟩ := hI.all _ hm'
  show wpAny (model prog w) A (keyLt' oneType' p.1 q.1) (fun r s' => s' = s ∧ r = ltSv p.1 q.1) (fun _ _ => False) s
  rw [e, e', keyLt'_oneType]
  exact oneLt_str ⟨rfl, rfl⟩
theorem strs_sortable {a : Addr} {vs : List Value} {ss : List Str} (hI : StrsAre vs ss) (h2 : 2 ≤ vs.length) : SortableO prog w A s a vs ltSv := by
  intro h' _
  refine ⟨oneType', fun Q E hq => ?_, str_cmp hI⟩
  match vs, hI, h2 with
  | v1 :: v2 :: rest, hI, _ =>
    rw [keyKind_strs hI]
    exact wpAny_pure hq
  | [], _, h => exact absurd h (by decide)
  | [v], _, h => exact absurd h (by simp)
theorem strs_out {vs out : List Value} {ss : List Str} (hI : StrsAre vs ss) (hs : Srtd ltSv out) (hb : Stb ltSv out vs) : StrsAre out (out.map PyProof.Rows.strOf) ∧ (out.map PyProof.Rows.strOf).Perm ss ∧ (out.map PyProof.Rows.strOf).Pairwise fun a b => leS a b = true := by
  refine ⟨strsAre_map _ fun v hv => hI.all v (hb.perm.mem_iff.mp hv), ?_, ?_⟩
  · have q := hb.perm.map PyProof.Rows.strOf
    rw [hI.strs] at q
    exact q
  · refine List.pairwise_map.mpr (hs.imp fun {x y} h => ?_)
    unfold leS
    rw [PyProof.Rows.ltCps_eq]
    exact (congrArg (!·) h : (!ltSv y x) = !false)
end
theorem vals_of_strs : ∀ {us : List Value} {ns : List Str}, PyProof.Rows.StrsAre us ns → Vals (ns.map V.str) us
  | _, _, .nil => by rw [List.map_nil]; exact Paired.nil
  | _, _, .cons n t h => by rw [List.map_cons]; exact Paired.cons (show RelV (V.str n) (Value.str n t) from ⟨t, rfl⟩) (vals_of_strs h)
/-- sorted(xs), texts, any number of them -/
def rSortedZ (K : PySem.W.Frag) : List V → Hp → VK → Prop := fun vs H Q => ∃ (a : Addr) (ns : List Str), vs = [V.ref a] ∧ SqL K H a (ns.map V.str) ∧
  ∀ (ns' : List Str) (p : Addr), ns'.Perm ns → ns'.Pairwise (fun a b => leS a b = true) → H p = none → Q (.ref p) (upd H p (.lst (ns'.map V.str)))
theorem cr_sortedZ {X : Cx} : CallR X (.builtin "sorted") (rSortedZ X.K) := by
  intro pins s σ H vs us Q I r h
  obtain ⟨a, ns, rfl, hs, q⟩ := h
  obtain ⟨its, rv, hl, hz⟩ := I.list hs
  rw [Vals.ref1 r]
  have hi := rv.strs
  refine SrtO.sorted_ord swo_str hl.isList (by rw [← rv.length]; exact hz) (fun h2 h₁ a' _ _ => strs_sortable hi h2) fun out h1 h2 => ?_
  obtain ⟨k1, k2, k3⟩ := strs_out hi h1 h2
  obtain ⟨ep, he'⟩ := PyProof.Rows.sortedAll_at s.heap its out.toArray
  have hlen : ((out.map PyProof.Rows.strOf).map V.str).length ≤ sizeLine := by
    rw [List.length_map, k2.length_eq]
    rw [List.length_map] at hz
    exact hz
  exact ⟨.ref _, upd H (s.heap.objs.size + 1) (.lst ((out.map PyProof.Rows.strOf).map V.str)), I.laid (t' := s.toks) (fun _ _ => PyProof.Rows.sortedAll_old) (Nat.le_succ _) ⟨hlen, out, ep, vals_of_strs k1, he'⟩, rfl, q _ _ k2 k3 (I.hok.fresh (Nat.le_succ _))⟩
theorem sortS_uniq' {ns ms : List Str} (hp : ms.Perm ns) (pw : ms.Pairwise fun a b => leS a b = true) : ms = sortS ns :=
  List.Perm.eq_of_pairwise (fun a b _ _ h1 h2 => leS_anti h1 h2) pw (List.pairwise_mergeSort (le := leS) (fun a b c h1 h2 => leS_trans h1 h2) leS_total ns) (hp.trans (List.mergeSort_perm ns _).symm)
def rSortedD (K : PySem.W.Frag) : List V → Hp → VK → Prop := fun vs H Q => ∃ (a : Addr) (ps : List (T × V)), vs = [.ref a] ∧ SqL K H a (ps.map Prod.snd) ∧ (∀ p ∈ ps, Dp K H p.2 p.1.toD) ∧ PySem.W.AllAlike (ps.map fun p => p.1.toD) ∧ PySem.W.Sortable (ps.map fun p => p.1.toD) ∧ (∀ p ∈ ps, p.1.toD.depth ≤ 60) ∧
  ∀ q, H q = none → Q (.ref q) (upd H q (.lst ((ps.mergeSort (PySem.W.dataLe false fun p => p.1.toD)).map Prod.snd)))
theorem each_of_vals : ∀ {ps : List (T × V)} {us : List Value}, Vals (ps.map Prod.snd) us → PySem.W.EachIs (fun v p => RelV p.2 v) us ps
  | [], _, h => by rw [List.map_nil] at h; cases h; exact .nil
  | p :: ps, _, h => by
    rw [List.map_cons] at h
    cases h with
    | cons h1 h2 => exact .cons h1 (each_of_vals h2)
theorem vals_of_each : ∀ {ps : List (T × V)} {us : List Value}, PySem.W.EachIs (fun v p => RelV p.2 v) us ps → Vals (ps.map Prod.snd) us
  | [], _, h => by cases h; rw [List.map_nil]; exact Paired.nil
  | p :: ps, _, h => by
    cases h with
    | cons h1 h2 => rw [List.map_cons]; exact Paired.cons h1 (vals_of_each h2)
theorem each_reads {pins : List (Addr × Obj)} {σ : St} {H : Hp} {s : Shared} (I : Inv X pins σ H s) : ∀ {ps : List (T × V)} {us : List Value}, PySem.W.EachIs (fun v p => RelV p.2 v) us ps → (∀ p ∈ ps, Dp X.K H p.2 p.1.toD) → PySem.W.EachIs (fun v p => ∃ as, Reads s.heap v p.1.toD as) us ps
  | [], _, h, _ => by cases h; exact .nil
  | p :: ps, _, h, hd => by
    cases h with
    | cons h1 h2 => exact .cons (Dp.reads I _ _ _ (hd p List.mem_cons_self) h1) (each_reads I h2 fun q hq => hd q (List.mem_cons_of_mem _ hq))
theorem cr_sortedD (hu : X.A.units + 64 < cLine) : CallR X (.builtin "sorted") (rSortedD X.K) := by
  intro pins s σ H vs us Q I r h
  obtain ⟨a, ps, rfl, hs, hd, hal, hk, hdep, q⟩ := h
  obtain ⟨its, rv, hl, hz⟩ := I.list hs
  rw [Vals.ref1 r]
  have e := each_of_vals rv
  have hz' : ps.length ≤ sizeLine := by rwa [List.length_map] at hz
  refine PySem.W.sorted_data (R := fun v (p : T × V) => RelV p.2 v) (enc := fun p : T × V => p.1.toD) hl.isList e (each_reads I e hd) hal hk hz' (fun b hb => by have := hdep b hb; omega) fun out ho eo => ?_
  obtain ⟨ep, he'⟩ := PyProof.Rows.sortedAll_at s.heap its out.toArray
  have hlen : ((ps.mergeSort (PySem.W.dataLe false fun p => p.1.toD)).map Prod.snd).length ≤ sizeLine := by
    rw [List.length_map, List.length_mergeSort]
    exact hz'
  exact ⟨.ref _, upd H (s.heap.objs.size + 1) (.lst ((ps.mergeSort (PySem.W.dataLe false fun p => p.1.toD)).map Prod.snd)), I.laid (t' := s.toks) (fun _ _ => PyProof.Rows.sortedAll_old) (Nat.le_succ _) ⟨hlen, out, ep, vals_of_each eo, he'⟩, rfl, q _ (I.hok.fresh (Nat.le_succ _))⟩
mutual
theorem Rp.hardF : ∀ (t : T) (x : V) (F : List Addr), t.hard = true → Rp C S H t x F → F = [] ∧ t.data = true
  | .non, x, F, _, h => ⟨h.2, rfl⟩
  | .bl _, x, F, _, h => ⟨h.2, rfl⟩
  | .int _, x, F, _, h => ⟨h.2, rfl⟩
  | .str _, x, F, _, h => ⟨h.2, rfl⟩
  | .tup xs, x, F, hd, ⟨a, vs, ex, ha, hr⟩ => RpL.hardF xs vs F hd hr
  | .lst _ _, x, F, hd, _ => by cases hd
  | .scr _, x, F, hd, _ => by cases hd
  | .dic _, x, F, hd, _ => by cases hd
  | .exc _ _, x, F, hd, _ => by cases hd
theorem RpL.hardF : ∀ (ts : List T) (vs : List V) (F : List Addr), T.hardL ts = true → RpL C S H ts vs F → F = [] ∧ T.dataL ts = true
  | [], vs, F, _, h => ⟨h.2, rfl⟩
  | t :: ts, vs, F, hd, ⟨v, ws, F1, F2, e, eF, h1, h2⟩ => by
    have hd' : (T.hard t && T.hardL ts) = true := hd
    rw [Bool.and_eq_true] at hd'
    obtain ⟨e1, d1⟩ := Rp.hardF t v F1 hd'.1 h1
    obtain ⟨e2, d2⟩ := RpL.hardF ts ws F2 hd'.2 h2
    subst e1 e2
    refine ⟨eF, ?_⟩
    show (T.data t && T.dataL ts) = true
    rw [d1, d2]; rfl
end
theorem rpl_zip : ∀ {zs : List T} {vs : List V} {F : List Addr}, RpL C S H zs vs F → (zs.zip vs).map Prod.fst = zs ∧ (zs.zip vs).map Prod.snd = vs ∧ ((∀ z ∈ zs, z.hard = true) → ∀ p ∈ zs.zip vs, Rp C S H p.1 p.2 [])
  | [], vs, F, h => by
    rw [h.1]
    exact ⟨rfl, rfl, fun _ p hp => by cases hp⟩
  | t :: ts, vs, F, ⟨v, ws, F1, F2, e, eF, h1, h2⟩ => by
    obtain ⟨i1, i2, i3⟩ := rpl_zip h2
    subst e
    refine ⟨by rw [List.zip_cons_cons, List.map_cons, i1], by rw [List.zip_cons_cons, List.map_cons, i2], fun hh p hp => ?_⟩
    rw [List.zip_cons_cons] at hp
    rcases List.mem_cons.mp hp with rfl | hp
    · have := (Rp.hardF t v F1 (hh t List.mem_cons_self) h1).1
      subst this
      exact h1
    · exact i3 (fun z hz => hh z (List.mem_cons_of_mem _ hz)) p hp
theorem rpl_pairs : ∀ {ps : List (T × V)}, (∀ p ∈ ps, Rp C S H p.1 p.2 []) → RpL C S H (ps.map Prod.fst) (ps.map Prod.snd) []
  | [], _ => ⟨rfl, rfl⟩
  | p :: ps, h => ⟨p.2, _, [], [], rfl, rfl, h p List.mem_cons_self, rpl_pairs fun q hq => h q (List.mem_cons_of_mem _ hq)⟩
theorem ok_sortL (hK : C.K = X.K) (hu : X.A.units + 64 < cLine) : CallR X (.builtin "sorted") (rOp C .sortL) := by
  intro pins s σ H xs us Q I r h
  obtain ⟨S, ts, t, hr, hf, hd, ho, hq⟩ := h
  replace ho : sortT ts = some t := ho
  unfold sortT at ho
  split at ho
  · rename_i o zs
    obtain ⟨x, F, rfl, rx⟩ := hr.inv1
    obtain ⟨p, vs, ex, hp, kx⟩ := rx.kids (hf _ (by simp))
    split at ho
    · rename_i ns h1
      cases ho
      have e := (ints_rel kx h1).1
      subst e
      refine cr_sortedI pins s σ H _ us Q I r ⟨p, ns, by rw [ex], .of hp, fun ns' l hpm hpw hl => ?_⟩
      rw [sortI_uniq hpm hpw]
      obtain ⟨z1, z2, z3, z4⟩ := rp_new (rpl_ints (sortI ns) S H) hd hl
      exact hq _ _ _ z1 z2 z3 z4
    · split at ho
      · rename_i zs' h1
        cases ho
        have e := strs_rel kx h1
        subst e
        refine cr_sortedZ pins s σ H _ us Q I r ⟨p, zs', by rw [ex], .of hp, fun ns' l hpm hpw hl => ?_⟩
        rw [sortS_uniq' hpm hpw]
        obtain ⟨z1, z2, z3, z4⟩ := rp_new (rpl_strs (sortS zs') S H) hd hl
        exact hq _ _ _ z1 z2 z3 z4
      · split at ho
        · rename_i hok
          cases ho
          have hall := List.all_eq_true.mp (show (zs.all fun x => isTup1 x && x.hard && decide (x.toD.depth ≤ 60) && zs.all fun y => PySem.W.alike x.toD y.toD) = true from hok)
          have hx : ∀ x ∈ zs, isTup1 x = true ∧ x.hard = true ∧ x.toD.depth ≤ 60 ∧ ∀ y ∈ zs, PySem.W.alike x.toD y.toD = true := fun x hx => by
            have := hall x hx
            simp only [Bool.and_eq_true, decide_eq_true_eq, List.all_eq_true] at this
            exact ⟨this.1.1.1, this.1.1.2, this.1.2, this.2⟩
          obtain ⟨q1, q2, q3⟩ := rpl_zip kx
          have q3 := q3 fun z hz => (hx z hz).2.1
          have mem : ∀ p ∈ zs.zip vs, p.1 ∈ zs := fun p hp => by rw [← q1]; exact List.mem_map.mpr ⟨p, hp, rfl⟩
          have em : (zs.zip vs).map (fun p => p.1.toD) = zs.map T.toD := by
            rw [show (zs.zip vs).map (fun p => p.1.toD) = ((zs.zip vs).map Prod.fst).map T.toD by rw [List.map_map]; rfl, q1]
          refine cr_sortedD hu pins s σ H _ us Q I r ⟨p, zs.zip vs, by rw [ex], ?_, fun p hp => ?_, ?_, ?_, fun p hp => (hx _ (mem p hp)).2.2.1, fun l hl => ?_⟩
          · rw [q2]; exact .of hp
          · rw [← hK]
            exact Rp.dp _ _ _ (Rp.hardF _ _ _ (hx _ (mem p hp)).2.1 (q3 p hp)).2 (q3 p hp)
          · rw [em]
            intro d hd d' hd'
            obtain ⟨x, hx1, rfl⟩ := List.mem_map.mp hd
            obtain ⟨y, hy1, rfl⟩ := List.mem_map.mp hd'
            exact (hx x hx1).2.2.2 y hy1
          · rw [em]
            refine .inl fun d hd => ?_
            obtain ⟨x, hx1, rfl⟩ := List.mem_map.mp hd
            have := (hx x hx1).1
            unfold isTup1 at this
            split at this
            · exact ⟨_, _, rfl⟩
            · cases this
          · have e1 : zs.mergeSort leD = ((zs.zip vs).mergeSort (PySem.W.dataLe false fun p => p.1.toD)).map Prod.fst := by
              have := List.map_mergeSort (r := PySem.W.dataLe false fun p : T × V => p.1.toD) (s := leD) (f := Prod.fst) (l := zs.zip vs) fun a _ b _ => rfl
              rw [this, q1]
            rw [e1] at hq
            obtain ⟨z1, z2, z3, z4⟩ := rp_new (rpl_pairs (ps := (zs.zip vs).mergeSort (PySem.W.dataLe false fun p => p.1.toD)) fun p hp => q3 p (List.mem_mergeSort.mp hp)) hd hl
            exact hq _ _ _ z1 z2 z3 z4
        · cases ho
  · cases ho
mutual
theorem T.toD_inj : ∀ (t u : T), t.hard = true → u.hard = true → t.toD = u.toD → t = u
  | .non, u, _, hu, e => by cases u <;> simp_all [T.toD, T.hard]
  | .bl _, u, _, hu, e => by cases u <;> simp_all [T.toD, T.hard]
  | .int _, u, _, hu, e => by cases u <;> simp_all [T.toD, T.hard]
  | .str _, u, _, hu, e => by cases u <;> simp_all [T.toD, T.hard]
  | .tup xs, .tup ys, h, hu, e => by
    have e' : T.toDL xs = T.toDL ys := by simpa [T.toD] using e
    rw [T.toDL_inj xs ys h hu e']
  | .tup xs, .non, h, hu, e => by simp [T.toD] at e
  | .tup xs, .bl _, h, hu, e => by simp [T.toD] at e
  | .tup xs, .int _, h, hu, e => by simp [T.toD] at e
  | .tup xs, .str _, h, hu, e => by simp [T.toD] at e
  | .tup xs, .lst _ _, h, hu, e => by cases hu
  | .tup xs, .scr _, h, hu, e => by cases hu
  | .tup xs, .dic _, h, hu, e => by cases hu
  | .tup xs, .exc _ _, h, hu, e => by cases hu
  | .lst _ _, u, h, _, _ => by cases h
  | .scr _, u, h, _, _ => by cases h
  | .dic _, u, h, _, _ => by cases h
  | .exc _ _, u, h, _, _ => by cases h
theorem T.toDL_inj : ∀ (ts us : List T), T.hardL ts = true → T.hardL us = true → T.toDL ts = T.toDL us → ts = us
  | [], us, _, _, e => by cases us with
    | nil => rfl
    | cons u us => simp [T.toDL] at e
  | t :: ts, us, h, hu, e => by
    cases us with
    | nil => simp [T.toDL] at e
    | cons u us =>
      have h' : (T.hard t && T.hardL ts) = true := h
      have hu' : (T.hard u && T.hardL us) = true := hu
      rw [Bool.and_eq_true] at h' hu'
      simp only [T.toDL, List.cons.injEq] at e
      rw [T.toD_inj t u h'.1 hu'.1 e.1, T.toDL_inj ts us h'.2 hu'.2 e.2]
end
theorem bestT_foldl (f : PyData → PyData → Bool) : ∀ (xs : List T) (x : T), xs.foldl (fun a y => if f y.toD a.toD then y else a) x ∈ x :: xs ∧ (xs.foldl (fun a y => if f y.toD a.toD then y else a) x).toD = (xs.map T.toD).foldl (fun a y => if f y a then y else a) x.toD
  | [], x => ⟨List.mem_singleton.mpr rfl, rfl⟩
  | y :: xs, x => by
    obtain ⟨i1, i2⟩ := bestT_foldl f xs (if f y.toD x.toD then y else x)
    refine ⟨?_, ?_⟩
    · rw [List.foldl_cons]
      rcases List.mem_cons.mp i1 with e | e
      · rw [e]; split
        · exact List.mem_cons_of_mem _ List.mem_cons_self
        · exact List.mem_cons_self
      · exact List.mem_cons_of_mem _ (List.mem_cons_of_mem _ e)
    · rw [List.foldl_cons, List.map_cons, List.foldl_cons, i2]
      congr 1
      split <;> rfl
theorem depthAll_le : ∀ (xs : List PyData), (∀ x ∈ xs, x.depth ≤ 60) → PyData.depthAll xs ≤ 60
  | [], _ => by simp [PyData.depthAll]
  | x :: xs, h => by
    have a := h x List.mem_cons_self
    have b := depthAll_le xs fun y hy => h y (List.mem_cons_of_mem _ hy)
    simp only [PyData.depthAll]
    omega
/-- min(xs), max(xs): data -/
def rBestD (K : PySem.W.Frag) (f : PyData → PyData → Bool) : List V → Hp → VK → Prop := fun vs H Q => ∃ (a : Addr) (x : T × V) (ps : List (T × V)), vs = [.ref a] ∧ SqL K H a ((x :: ps).map Prod.snd) ∧ (∀ p ∈ x :: ps, Dp K H p.2 p.1.toD) ∧ PySem.W.AlikeAll ((x :: ps).map fun p => p.1.toD) ∧ (∀ p ∈ x :: ps, p.1.toD.depth ≤ 60) ∧
  ∀ p ∈ x :: ps, p.1.toD = (ps.map fun p => p.1.toD).foldl (fun a y => if f y a then y else a) x.1.toD → Q p.2 H
theorem each_get {R : Value → T × V → Prop} : ∀ {us : List Value} {ps : List (T × V)}, PySem.W.EachIs R us ps → ∀ {i : Nat} {v : Value}, us[i]? = some v → ∃ p ∈ ps, R v p
  | _, _, .nil, i, v, h => by simp at h
  | _, _, .cons h1 h2, 0, v, h => by
    cases h
    exact ⟨_, List.mem_cons_self, h1⟩
  | _, _, .cons h1 h2, i + 1, v, h => by
    obtain ⟨p, hp, r⟩ := each_get h2 (i := i) (by simpa using h)
    exact ⟨p, List.mem_cons_of_mem _ hp, r⟩
theorem each_all : ∀ {ps : List (T × V)} {us : List Value} {h : Heap}, PySem.W.EachIs (fun v p => ∃ as, Reads h v p.1.toD as) us ps → ∃ as, ReadsAll h us (ps.map fun p => p.1.toD) as
  | [], _, _, h => by cases h; exact ⟨_, .nil⟩
  | p :: ps, _, _, h => by
    cases h with
    | cons h1 h2 =>
      obtain ⟨as, r⟩ := h1
      obtain ⟨bs, r2⟩ := each_all h2
      exact ⟨_, .cons r r2⟩
theorem cr_minD (hc : X.calm = true) (hu : X.A.units + 64 < cLine) : CallR X (.builtin "min") (rBestD X.K PySem.W.dataLt) := by
  intro pins s σ H vs us Q I r h
  obtain ⟨a, x, ps, rfl, hs, hd, hal, hdep, q⟩ := h
  obtain ⟨its, rv, hl, hz⟩ := I.list hs
  rw [Vals.ref1 r]
  have e := each_of_vals rv
  have er := each_reads I e hd
  obtain ⟨as, ra⟩ := each_all er
  have hdp := depthAll_le ((x :: ps).map fun p => p.1.toD) fun d hd' => by
    obtain ⟨p, hp, rfl⟩ := List.mem_map.mp hd'
    exact hdep p hp
  have hal' : PySem.W.AlikeAll (x.1.toD :: ps.map fun p => p.1.toD) := hal
  have ra' : ReadsAll s.heap its.toArray.toList (x.1.toD :: ps.map fun p => p.1.toD) as := by simpa using ra
  have hdp' : PyData.depthAll (x.1.toD :: ps.map fun p => p.1.toD) ≤ 60 := hdp
  refine PySem.W.min_list_data (I.ok.hd hc) hl.isList ra' hal' (by omega) fun i v h' tk bs hv rd hk => ?_
  have hv' : its[i]? = some v := by simpa using hv
  obtain ⟨p, hp, hr⟩ := each_get (R := fun v p => RelV p.2 v) e hv'
  obtain ⟨cs, rp⟩ := Dp.reads I _ _ _ (hd p hp) hr
  have := (PyProof.Rows.reads_det (fun b o hb _ => hk b o hb) rp rd).1
  exact ⟨p.2, H, I.kept hk, hr, q p hp this.symm⟩
theorem cr_maxD (hc : X.calm = true) (hu : X.A.units + 64 < cLine) : CallR X (.builtin "max") (rBestD X.K fun a b => PySem.W.dataLt b a) := by
  intro pins s σ H vs us Q I r h
  obtain ⟨a, x, ps, rfl, hs, hd, hal, hdep, q⟩ := h
  obtain ⟨its, rv, hl, hz⟩ := I.list hs
  rw [Vals.ref1 r]
  have e := each_of_vals rv
  have er := each_reads I e hd
  obtain ⟨as, ra⟩ := each_all er
  have hdp := depthAll_le ((x :: ps).map fun p => p.1.toD) fun d hd' => by
    obtain ⟨p, hp, rfl⟩ := List.mem_map.mp hd'
    exact hdep p hp
  have hal' : PySem.W.AlikeAll (x.1.toD :: ps.map fun p => p.1.toD) := hal
  have ra' : ReadsAll s.heap its.toArray.toList (x.1.toD :: ps.map fun p => p.1.toD) as := by simpa using ra
  have hdp' : PyData.depthAll (x.1.toD :: ps.map fun p => p.1.toD) ≤ 60 := hdp
  refine PySem.W.max_list_data (I.ok.hd hc) hl.isList ra' hal' (by omega) fun i v h' tk bs hv rd hk => ?_
  have hv' : its[i]? = some v := by simpa using hv
  obtain ⟨p, hp, hr⟩ := each_get (R := fun v p => RelV p.2 v) e hv'
  obtain ⟨cs, rp⟩ := Dp.reads I _ _ _ (hd p hp) hr
  have := (PyProof.Rows.reads_det (fun b o hb _ => hk b o hb) rp rd).1
  exact ⟨p.2, H, I.kept hk, hr, q p hp this.symm⟩
/-- the first of the least of a list's data -/
theorem best_rel (hK : C.K = X.K) {f : PyData → PyData → Bool} {H : Hp} {Q : VK} {S : Addr → Prop} {p : Addr} {vs : List V} {zs : List T} {t : T}
    (hp : H p = some (.lst vs)) (kx : RpL C S H zs vs []) (hok : dataOk zs = true) (hb : bestT f zs = some t) (hq : ∀ x, Rp C S H t x [] → Q x H) : rBestD X.K f [V.ref p] H Q := by
  have hall := List.all_eq_true.mp (show (zs.all fun x => !x.isNon && x.hard && decide (x.toD.depth ≤ 60) && zs.all fun y => PySem.W.alike x.toD y.toD) = true from hok)
  have hx : ∀ x ∈ zs, x.isNon = false ∧ x.hard = true ∧ x.toD.depth ≤ 60 ∧ ∀ y ∈ zs, PySem.W.alike x.toD y.toD = true := fun x hx => by
    have := hall x hx
    simp only [Bool.and_eq_true, decide_eq_true_eq, List.all_eq_true, Bool.not_eq_true'] at this
    exact ⟨this.1.1.1, this.1.1.2, this.1.2, this.2⟩
  obtain ⟨q1, q2, q3⟩ := rpl_zip kx
  have q3 := q3 fun z hz => (hx z hz).2.1
  have mem : ∀ p ∈ zs.zip vs, p.1 ∈ zs := fun p hp => by rw [← q1]; exact List.mem_map.mpr ⟨p, hp, rfl⟩
  have em : (zs.zip vs).map (fun p => p.1.toD) = zs.map T.toD := by
    rw [show (zs.zip vs).map (fun p => p.1.toD) = ((zs.zip vs).map Prod.fst).map T.toD by rw [List.map_map]; rfl, q1]
  cases zs with
  | nil => cases hb
  | cons z zs =>
    cases vs with
    | nil => simp at q1
    | cons v vs =>
      have hb' : t = zs.foldl (fun a y => if f y.toD a.toD then y else a) z := (Option.some.inj hb).symm
      obtain ⟨b1, b2⟩ := bestT_foldl f zs z
      rw [← hb'] at b1 b2
      refine ⟨p, (z, v), zs.zip vs, rfl, ?_, fun p hp => ?_, ?_, fun p hp => (hx _ (mem p hp)).2.2.1, fun p hp e => ?_⟩
      · have : ((z, v) :: zs.zip vs).map Prod.snd = v :: vs := q2
        rw [this]; exact .of hp
      · rw [← hK]
        exact Rp.dp _ _ _ (Rp.hardF _ _ _ (hx _ (mem p hp)).2.1 (q3 p hp)).2 (q3 p hp)
      · have em' : ((z, v) :: zs.zip vs).map (fun p => p.1.toD) = (z :: zs).map T.toD := em
        rw [em']
        refine ⟨fun d hd d' hd' => ?_, fun d hd => ?_⟩
        · obtain ⟨x, hx1, rfl⟩ := List.mem_map.mp hd
          obtain ⟨y, hy1, rfl⟩ := List.mem_map.mp hd'
          exact (hx x hx1).2.2.2 y hy1
        · obtain ⟨x, hx1, rfl⟩ := List.mem_map.mp hd
          have h1 := (hx x hx1).1
          have h2 := (hx x hx1).2.1
          intro e
          cases x <;> simp_all [T.toD, T.isNon, T.hard]
      · have em' : (zs.zip vs).map (fun p => p.1.toD) = zs.map T.toD := (List.cons.inj (show ((z, v) :: zs.zip vs).map (fun p => p.1.toD) = (z :: zs).map T.toD from em)).2
        have : t = p.1 := T.toD_inj _ _ (hx t b1).2.1 (hx _ (mem p hp)).2.1 (by rw [b2, e, em'])
        exact hq _ (by rw [this]; exact q3 p hp)
theorem ok_maxL (hK : C.K = X.K) (hc : X.calm = true) (hu : X.A.units + 64 < cLine) : CallR X (.builtin "max") (rOp C .maxL) := by
  intro pins s σ H xs us Q I r h
  obtain ⟨S, ts, t, hr, hf, hd, ho, hq⟩ := h
  replace ho : maxT ts = some t := ho
  unfold maxT at ho
  split at ho
  · rename_i o zs
    obtain ⟨x, F, rfl, rx⟩ := hr.inv1
    obtain ⟨p, vs, ex, hp, kx⟩ := rx.kids (hf _ (by simp))
    split at ho
    · rename_i ns h1
      obtain ⟨m, hm, rfl⟩ := Option.map_eq_some_iff.mp ho
      have e := (ints_rel kx h1).1
      subst e
      obtain ⟨l0, l1, l2⟩ := maxI_of hm
      refine cr_max hc pins s σ H _ us Q I r ⟨p, ns, by rw [ex], .of hp, l0, fun m' a1 a2 => ?_⟩
      have : m' = m := Int.le_antisymm (l2 _ a1) (a2 _ l1)
      rw [this]
      exact rq hq (rp_i S H)
    · split at ho
      · rename_i hok
        subst ex
        exact cr_maxD hc hu pins s σ H _ us Q I r (best_rel hK hp kx hok ho fun x rx => rq hq rx)
      · cases ho
  · cases ho
theorem ok_minL (hK : C.K = X.K) (hc : X.calm = true) (hu : X.A.units + 64 < cLine) : CallR X (.builtin "min") (rOp C .minL) := by
  intro pins s σ H xs us Q I r h
  obtain ⟨S, ts, t, hr, hf, hd, ho, hq⟩ := h
  replace ho : minT ts = some t := ho
  unfold minT at ho
  split at ho
  · rename_i o zs
    obtain ⟨x, F, rfl, rx⟩ := hr.inv1
    obtain ⟨p, vs, ex, hp, kx⟩ := rx.kids (hf _ (by simp))
    split at ho
    · rename_i ns h1
      obtain ⟨m, hm, rfl⟩ := Option.map_eq_some_iff.mp ho
      have e := (ints_rel kx h1).1
      subst e
      obtain ⟨l0, l1, l2⟩ := minI_of hm
      refine cr_min hc pins s σ H _ us Q I r ⟨p, ns, by rw [ex], .of hp, l0, fun m' a1 a2 => ?_⟩
      have : m' = m := Int.le_antisymm (a2 _ l1) (l2 _ a1)
      rw [this]
      exact rq hq (rp_i S H)
    · split at ho
      · rename_i hok
        subst ex
        exact cr_minD hc hu pins s σ H _ us Q I r (best_rel hK hp kx hok ho fun x rx => rq hq rx)
      · cases ho
  · cases ho

theorem flat_rel {t : T} {x : V} {F : List Addr} (h : Rp C S H t x F) (hf : t.flat = true) : flatV x = true := by
  cases t <;> first
    | (cases hf; done)
    | (rw [h.1]; rfl)
theorem eqF_rel {t u : T} {x y : V} {F G : List Addr} (h : Rp C S H t x F) (k : Rp C S H u y G) (ht : t.flat = true) (hu : u.flat = true) : eqV x y = eqF t u := by
  cases t <;> cases u <;> first
    | (cases ht; done)
    | (cases hu; done)
    | (rw [h.1, k.1]; rfl)
theorem flats_rel : ∀ {xs : List T} {vs : List V} {F : List Addr}, RpL C S H xs vs F → xs.all T.flat = true → vs.all flatV = true
  | [], vs, F, h, _ => by rw [h.1] <;> rfl
  | t :: ts, vs, F, ⟨v, ws, F1, F2, ev, _, r1, r2⟩, e => by
    have e' : t.flat = true ∧ ts.all T.flat = true := by simpa using e
    subst ev
    show (flatV v && ws.all flatV) = true
    rw [flat_rel r1 e'.1, flats_rel r2 e'.2] <;> rfl
theorem in_rel {u : T} {y : V} {G : List Addr} (k : Rp C S H u y G) (hu : u.flat = true) : ∀ {xs : List T} {vs : List V} {F : List Addr}, RpL C S H xs vs F → xs.all T.flat = true → inV y vs = xs.any fun t => eqF t u
  | [], vs, F, h, _ => by rw [h.1] <;> rfl
  | t :: ts, vs, F, ⟨v, ws, F1, F2, ev, _, r1, r2⟩, e => by
    have e' : t.flat = true ∧ ts.all T.flat = true := by simpa using e
    subst ev
    have ih := in_rel k hu r2 e'.2
    unfold inV at ih ⊢
    rw [List.any_cons, List.any_cons, eqF_rel r1 k e'.1 hu, ih]
/-- what a membership asks of the heap -/
theorem in_cases {a b : T} {x y : V} {F F' : List Addr} {r : Bool} (ra : Rp C S H a x F) (rb : Rp C S H b y F') (fb : b.fk = b) (e : inS a b = some r) :
    (∃ p vs, y = .ref p ∧ (H p = some (.lst vs) ∨ H p = some (.tup vs)) ∧ flatV x = true ∧ vs.all flatV = true ∧ r = inV x vs) ∨ ∃ (c : Nat) (z : Str), x = .str ⟨#[c]⟩ ∧ y = .str z ∧ r = decide (c ∈ z.cps.toList) := by
  unfold inS at e
  cases b with
  | lst o xs =>
    simp only at e
    split at e
    · rename_i hc
      have hc' : a.flat = true ∧ xs.all T.flat = true := Bool.and_eq_true_iff.mp hc
      cases e
      obtain ⟨p, vs, ex, hp, kx⟩ := rb.kids fb
      exact .inl ⟨p, vs, ex, .inl hp, flat_rel ra hc'.1, flats_rel kx hc'.2, (in_rel ra hc'.1 kx hc'.2).symm⟩
    · cases e
  | tup xs =>
    simp only at e
    split at e
    · rename_i hc
      have hc' : a.flat = true ∧ xs.all T.flat = true := Bool.and_eq_true_iff.mp hc
      cases e
      obtain ⟨p, vs, ex, hp, kx⟩ := rb.kidsT fb
      exact .inl ⟨p, vs, ex, .inr hp, flat_rel ra hc'.1, flats_rel kx hc'.2, (in_rel ra hc'.1 kx hc'.2).symm⟩
    · cases e
  | str z =>
    simp only at e
    split at e
    · rename_i w
      split at e
      · rename_i cc hw
        cases e
        refine .inr ⟨cc, z, ?_, rb.1, rfl⟩
        rw [ra.1]
        congr 1
        cases w
        rename_i arr
        congr 1
        exact Array.toList_inj.mp hw
      · cases e
    · cases e
  | non => cases e
  | bl _ => cases e
  | int _ => cases e
  | scr _ => cases e
  | dic _ => cases e
  | exc _ _ => cases e
theorem ok_inn (hK : C.K = X.K) : OpR X (compareOp .In) (r2 C .inn) := by
  intro pins s σ H x y v u Q I rx ry h
  obtain ⟨S, ts, t, hr, hf, hd, ho, hq⟩ := h
  obtain ⟨a, b, rfl, ho⟩ := two2_of ho
  obtain ⟨x', y', F, F', e2, ra, rb⟩ := hr.inv2
  cases e2
  obtain ⟨r, hr2, rfl⟩ := Option.map_eq_some_iff.mp ho
  have q := rq (C := C) (S := S) (H := H) (x := .bl r) hq ⟨rfl, rfl⟩
  rcases in_cases ra rb (hf _ (by simp)) hr2 with ⟨p, vs, ey, hp, h1, h2, rfl⟩ | ⟨c, z, ex, ey, rfl⟩
  · refine op_in_seq pins s σ H x y v u Q I rx ry ⟨p, vs, ey, ?_, h1, h2, q⟩
    rcases hp with hp | hp
    · exact .inl (.of hp)
    · exact .inr (.of hp)
  · exact op_in_sign pins s σ H x y v u Q I rx ry ⟨c, z, ex, ey, q⟩
theorem ok_notin (hK : C.K = X.K) : OpR X (compareOp .NotIn) (r2 C .notin) := by
  intro pins s σ H x y v u Q I rx ry h
  obtain ⟨S, ts, t, hr, hf, hd, ho, hq⟩ := h
  obtain ⟨a, b, rfl, ho⟩ := two2_of ho
  obtain ⟨x', y', F, F', e2, ra, rb⟩ := hr.inv2
  cases e2
  obtain ⟨r, hr2, rfl⟩ := Option.map_eq_some_iff.mp ho
  have q := rq (C := C) (S := S) (H := H) (x := .bl (!r)) hq ⟨rfl, rfl⟩
  rcases in_cases ra rb (hf _ (by simp)) hr2 with ⟨p, vs, ey, hp, h1, h2, rfl⟩ | ⟨c, z, ex, ey, rfl⟩
  · refine op_notIn_seq pins s σ H x y v u Q I rx ry ⟨p, vs, ey, ?_, h1, h2, q⟩
    rcases hp with hp | hp
    · exact .inl (.of hp)
    · exact .inr (.of hp)
  · exact op_notIn_sign pins s σ H x y v u Q I rx ry ⟨c, z, ex, ey, q⟩
theorem ok_join (hK : C.K = X.K) {x y : V} {Q : VK} (h : rOp C .join [x, y] H Q) : ∃ a p, ∃ ys : List Str, x = .str a ∧ [y] = [.ref p] ∧ (SqL X.K H p (ys.map V.str) ∨ SqT X.K H p (ys.map V.str)) ∧ (ys.map (·.length)).sum + ys.length * a.length ≤ 16777216 ∧ Q (.str (Txt.join a ys)) H := by
  obtain ⟨S, ts, t, hr, hf, hd, ho, hq⟩ := h
  replace ho : joinS ts = some t := ho
  unfold joinS at ho
  split at ho
  · rename_i a o xs
    obtain ⟨ys, h1, h2⟩ := Option.bind_eq_some_iff.mp ho
    split at h2
    · rename_i hl
      cases h2
      obtain ⟨x', y', F, F', e2, ra, rb⟩ := hr.inv2
      cases e2
      obtain ⟨p, vs, ey, hp, kx⟩ := rb.kids (hf _ (by simp))
      have e := strs_rel kx h1
      subst e
      exact ⟨a, p, ys, ra.1, by rw [ey], .inl (.of hp), hl, rq hq (rp_s S H)⟩
    · cases h2
  · cases ho
theorem ok_upper {x : V} {Q : VK} (h : rOp C .upper [x] H Q) : (∃ a, x = .str a) ∧ ∃ a, x = .str a ∧ ([] : List V) = [] ∧ a.length ≤ 5592405 ∧ Q (.str (Txt.upper a)) H := by
  obtain ⟨S, ts, t, hr, hf, hd, ho, hq⟩ := h
  replace ho : upperS ts = some t := ho
  unfold upperS at ho
  split at ho
  · split at ho
    · rename_i a hl
      cases ho
      obtain ⟨x', F, e, ra⟩ := hr.inv1
      cases e
      exact ⟨⟨a, ra.1⟩, a, ra.1, rfl, hl, rq hq (rp_s S H)⟩
    · cases ho
  · cases ho
theorem new_strs {S : Addr → Prop} {Q : VK} {ys : List Str} (hd : ∀ a, S a → ∃ ys, H a = some (.lst ys)) (hq : ∀ (x : V) (H' : Hp) (F : List Addr), Same H H' → (∀ b ∈ F, H b = none) → F.Nodup → Rp C S H' (.lst true (ys.map .str)) x F → Q x H') : rNewStrs ys H Q := by
  intro p hp
  obtain ⟨z1, z2, z3, z4⟩ := rp_new (rpl_strs (C := C) ys S H) hd hp
  exact hq _ _ _ z1 z2 z3 z4
theorem ok_words {x : V} {Q : VK} (h : rOp C .words [x] H Q) : (∃ a, x = .str a) ∧ ∃ a, x = .str a ∧ ([] : List V) = [] ∧ a.length + 2 ≤ sizeLine ∧ rNewStrs (Txt.words a) H Q := by
  obtain ⟨S, ts, t, hr, hf, hd, ho, hq⟩ := h
  replace ho : wordsS ts = some t := ho
  unfold wordsS at ho
  split at ho
  · split at ho
    · rename_i a hl
      cases ho
      obtain ⟨x', F, e, ra⟩ := hr.inv1
      cases e
      exact ⟨⟨a, ra.1⟩, a, ra.1, rfl, hl, new_strs hd hq⟩
    · cases ho
  · cases ho
theorem ok_split {x : V} {b : Str} {Q : VK} (h : rOp C (.split b) [x] H Q) : (∃ a, x = .str a) ∧ ∃ a b', x = .str a ∧ [V.str b] = [.str b'] ∧ (b'.length == 0) = false ∧ a.length + 2 ≤ sizeLine ∧ rNewStrs (Txt.split a b') H Q := by
  obtain ⟨S, ts, t, hr, hf, hd, ho, hq⟩ := h
  replace ho : splitS b ts = some t := ho
  unfold splitS at ho
  split at ho
  · split at ho
    · rename_i a hl
      cases ho
      obtain ⟨x', F, e, ra⟩ := hr.inv1
      cases e
      exact ⟨⟨a, ra.1⟩, a, b, ra.1, rfl, hl.1, hl.2, new_strs hd hq⟩
    · cases ho
  · cases ho
theorem ok_str : CallR X (.type "str") (rOp C .str) := by
  intro pins s σ H xs us Q I r h
  obtain ⟨S, ts, t, hr, hf, hd, ho, hq⟩ := h
  replace ho : strS ts = some t := ho
  unfold strS at ho
  split at ho
  · split at ho
    · rename_i i hl
      cases ho
      obtain ⟨x, F, rfl, rx⟩ := hr.inv1
      exact call_str_int pins s σ H _ us Q I r ⟨i, by rw [rx.1], hl, rq hq (rp_s S H)⟩
    · cases ho
  · rename_i a
    cases ho
    obtain ⟨x, F, rfl, rx⟩ := hr.inv1
    exact SkE.call_str_str pins s σ H _ us Q I r ⟨a, by rw [rx.1], rq hq (rp_s S H)⟩
  · cases ho
theorem RpL.empty {xs : List T} {vs : List V} {F : List Addr} (h : RpL C S H xs vs F) : vs.isEmpty = xs.isEmpty := by
  have := h.length
  cases xs <;> cases vs <;> first | rfl | (simp at this)
theorem ok_tru (hK : C.K = X.K) {x : V} {Q : Bool → Hp → Prop} (h : rOp C .truL [x] H fun y H1 => ∃ c, y = .bl c ∧ Q c H1) : ∃ k, TruV X.K x H k ∧ Q k H := by
  obtain ⟨S, ts, t, hr, hf, hd, ho, hq⟩ := h
  obtain ⟨a, rfl, ho⟩ := one1_of ho
  obtain ⟨x', F, e, ra⟩ := hr.inv1
  cases e
  obtain ⟨k, hk, rfl⟩ := Option.map_eq_some_iff.mp ho
  obtain ⟨c, ec, q⟩ := rq (C := C) (S := S) (H := H) (x := .bl k) hq ⟨rfl, rfl⟩
  cases ec
  refine ⟨k, ?_, q⟩
  cases a with
  | non => cases hk; rw [ra.1]; rfl
  | bl b => cases hk; rw [ra.1]; rfl
  | int b => cases hk; rw [ra.1]; rfl
  | str z =>
    have hk' : (if z.length ≤ sizeLine then some ((z.length : Int) != 0) else none) = some k := hk
    split at hk'
    · rename_i hl
      cases hk'
      rw [ra.1]
      exact ⟨hl, rfl⟩
    · cases hk'
  | lst o xs =>
    cases hk
    obtain ⟨p, vs, ex, hp, kx⟩ := ra.kids (hf _ (by simp))
    rw [ex]
    exact .inl ⟨vs, .of hp, by rw [kx.empty]⟩
  | tup xs =>
    cases hk
    obtain ⟨p, vs, ex, hp, kx⟩ := ra.kidsT (hf _ (by simp))
    rw [ex]
    exact .inr (.inl ⟨vs, .of hp, by rw [kx.empty]⟩)
  | scr _ => cases hk
  | dic _ => cases hk
  | exc _ _ => cases hk
/-! min, max of three; with a default; sorted from the greatest; list.index -/
theorem int3_of {f : Int → Int → Int → Option T} {ts : List T} {t : T} (h : int3 f ts = some t) : ∃ a b c, ts = [.int a, .int b, .int c] ∧ f a b c = some t := by
  unfold int3 at h
  split at h
  · exact ⟨_, _, _, rfl, h⟩
  · cases h
theorem ok_min3 (hc : X.calm = true) : CallR X (.builtin "min") (rOp C .min3) := by
  intro pins s σ H xs us Q I r h
  obtain ⟨S, ts, t, hr, hf, hd, ho, hq⟩ := h
  obtain ⟨a, b, c, rfl, h1⟩ := int3_of ho
  cases h1
  obtain ⟨x, y, z, _, _, _, rfl, rx, ry, rz⟩ := hr.inv3
  refine call_min3Nu hc pins s σ H _ us Q I r ⟨x, y, z, .int (if c < (if b < a then b else a) then c else if b < a then b else a), rfl, ?_, rq hq (rp_i S H)⟩
  rw [rx.1, ry.1, rz.1]
  by_cases h : b < a
  · by_cases h2 : c < b <;> simp [nuMin3, nuMin2, nuLt, nuCB, h, h2]
  · by_cases h2 : c < a <;> simp [nuMin3, nuMin2, nuLt, nuCB, h, h2]
theorem ok_max3 (hc : X.calm = true) : CallR X (.builtin "max") (rOp C .max3) := by
  intro pins s σ H xs us Q I r h
  obtain ⟨S, ts, t, hr, hf, hd, ho, hq⟩ := h
  obtain ⟨a, b, c, rfl, h1⟩ := int3_of ho
  cases h1
  obtain ⟨x, y, z, _, _, _, rfl, rx, ry, rz⟩ := hr.inv3
  refine call_max3Nu hc pins s σ H _ us Q I r ⟨x, y, z, .int (if (if a < b then b else a) < c then c else if a < b then b else a), rfl, ?_, rq hq (rp_i S H)⟩
  rw [rx.1, ry.1, rz.1]
  by_cases h : a < b
  · by_cases h2 : b < c <;> simp [nuMax3, nuMax2, nuLt, nuCB, h, h2]
  · by_cases h2 : a < c <;> simp [nuMax3, nuMax2, nuLt, nuCB, h, h2]
/-- .. with a default -/
def rBestDf (K : PySem.W.Frag) (f : PyData → PyData → Bool) : List V → List V → Hp → VK → Prop := fun vs zs H Q => ∃ (a : Addr) (d : V) (ps : List (T × V)), vs = [.ref a] ∧ zs = [d] ∧ SqL K H a (ps.map Prod.snd) ∧ (∀ p ∈ ps, Dp K H p.2 p.1.toD) ∧ PySem.W.AlikeAll (ps.map fun p => p.1.toD) ∧ (∀ p ∈ ps, p.1.toD.depth ≤ 60) ∧
  (ps = [] → Q d H) ∧ ∀ x qs, ps = x :: qs → ∀ p ∈ ps, p.1.toD = (qs.map fun p => p.1.toD).foldl (fun a y => if f y a then y else a) x.1.toD → Q p.2 H
theorem each_reads' {pins : List (Addr × Obj)} {σ : St} {H : Hp} {s : Shared} (I : Inv X pins σ H s) {ps : List (T × V)} {us : List Value} (h : PySem.W.EachIs (fun v p => RelV p.2 v) us ps) (hd : ∀ p ∈ ps, Dp X.K H p.2 p.1.toD) : ∃ as, ReadsAll s.heap us (ps.map fun p => p.1.toD) as := each_all (each_reads I h hd)
theorem cr_minDf (hc : X.calm = true) (hu : X.A.units + 64 < cLine) : CallRK X (.builtin "min") [Str.ofString "default"] (rBestDf X.K PySem.W.dataLt) := by
  intro pins s σ H vs zs us ws Q I r rz h
  obtain ⟨a, d, ps, rfl, rfl, hs, hd, hal, hdep, q0, q⟩ := h
  obtain ⟨its, rv, hl, hz⟩ := I.list hs
  rw [Vals.ref1 r]
  obtain ⟨w1, rfl, e1⟩ := vals1 rz
  have e := each_of_vals rv
  obtain ⟨as, ra⟩ := each_reads' I e hd
  have hdp := depthAll_le (ps.map fun p => p.1.toD) fun d hd' => by
    obtain ⟨p, hp, rfl⟩ := List.mem_map.mp hd'
    exact hdep p hp
  have ra' : ReadsAll s.heap its.toArray.toList (ps.map fun p => p.1.toD) as := by simpa using ra
  refine PySem.W.min_list_default (I.ok.hd hc) hl.isList ra' hal (by omega) (fun h0 h' tk hk => ?_) fun y ys i v h' tk bs hy hv rd hk => ?_
  · exact ⟨d, H, I.kept hk, e1, q0 (by simpa using h0)⟩
  · have hv' : its[i]? = some v := by simpa using hv
    obtain ⟨p, hp, hr⟩ := each_get (R := fun v p => RelV p.2 v) e hv'
    obtain ⟨cs, rp⟩ := Dp.reads I _ _ _ (hd p hp) hr
    have e3 := (PyProof.Rows.reads_det (fun b o hb _ => hk b o hb) rp rd).1
    cases ps with
    | nil => cases hy
    | cons x qs =>
      rw [List.map_cons, List.cons.injEq] at hy
      obtain ⟨rfl, rfl⟩ := hy
      exact ⟨p.2, H, I.kept hk, hr, q x qs rfl p hp e3.symm⟩
theorem cr_maxDf (hc : X.calm = true) (hu : X.A.units + 64 < cLine) : CallRK X (.builtin "max") [Str.ofString "default"] (rBestDf X.K fun a b => PySem.W.dataLt b a) := by
  intro pins s σ H vs zs us ws Q I r rz h
  obtain ⟨a, d, ps, rfl, rfl, hs, hd, hal, hdep, q0, q⟩ := h
  obtain ⟨its, rv, hl, hz⟩ := I.list hs
  rw [Vals.ref1 r]
  obtain ⟨w1, rfl, e1⟩ := vals1 rz
  have e := each_of_vals rv
  obtain ⟨as, ra⟩ := each_reads' I e hd
  have hdp := depthAll_le (ps.map fun p => p.1.toD) fun d hd' => by
    obtain ⟨p, hp, rfl⟩ := List.mem_map.mp hd'
    exact hdep p hp
  have ra' : ReadsAll s.heap its.toArray.toList (ps.map fun p => p.1.toD) as := by simpa using ra
  refine PySem.W.max_list_default (I.ok.hd hc) hl.isList ra' hal (by omega) (fun h0 h' tk hk => ?_) fun y ys i v h' tk bs hy hv rd hk => ?_
  · exact ⟨d, H, I.kept hk, e1, q0 (by simpa using h0)⟩
  · have hv' : its[i]? = some v := by simpa using hv
    obtain ⟨p, hp, hr⟩ := each_get (R := fun v p => RelV p.2 v) e hv'
    obtain ⟨cs, rp⟩ := Dp.reads I _ _ _ (hd p hp) hr
    have e3 := (PyProof.Rows.reads_det (fun b o hb _ => hk b o hb) rp rd).1
    cases ps with
    | nil => cases hy
    | cons x qs =>
      rw [List.map_cons, List.cons.injEq] at hy
      obtain ⟨rfl, rfl⟩ := hy
      exact ⟨p.2, H, I.kept hk, hr, q x qs rfl p hp e3.symm⟩
/-- ints are data -/
theorem dataOk_ints (ns : List Int) : dataOk (ns.map .int) = true := by
  unfold dataOk
  rw [List.all_eq_true]
  intro x hx
  obtain ⟨n, _, rfl⟩ := List.mem_map.mp hx
  simp only [T.isNon, T.hard, T.toD, PyData.depth, Bool.not_false, Bool.true_and, Bool.and_eq_true, decide_eq_true_eq, List.all_eq_true]
  refine ⟨by omega, fun y hy => ?_⟩
  obtain ⟨m, _, rfl⟩ := List.mem_map.mp hy
  rfl
theorem dfl_rel (hK : C.K = X.K) {f : PyData → PyData → Bool} {H : Hp} {Q : VK} {S : Addr → Prop} {p : Addr} {vs : List V} {zs : List T} {d : T} {dv : V} {Fd : List Addr} {t : T}
    (hp : H p = some (.lst vs)) (kx : RpL C S H zs vs []) (rd : Rp C S H d dv Fd) (hok : dataOk zs = true) (h0 : zs = [] → (d.isNon || d.hard) = true ∧ t = d) (hb : zs ≠ [] → bestT f zs = some t) (hq : ∀ x, Rp C S H t x [] → Q x H) : rBestDf X.K f [V.ref p] [dv] H Q := by
  cases zs with
  | nil =>
    obtain ⟨rfl, _⟩ := kx
    obtain ⟨hd, rfl⟩ := h0 rfl
    refine ⟨p, dv, [], rfl, rfl, .of hp, (fun p hp => nomatch hp), ⟨(fun x hx => nomatch hx), (fun x hx => nomatch hx)⟩, (fun p hp => nomatch hp), fun _ => ?_, (fun x qs e => nomatch e)⟩
    have hh : t.hard = true := by
      cases t <;> first | rfl | simpa [T.isNon] using hd
    obtain ⟨rfl, _⟩ := Rp.hardF _ _ _ hh rd
    exact hq _ rd
  | cons z zs =>
    obtain ⟨a, x, ps, e1, e2, e3, e4, e5, e6⟩ := best_rel (X := X) hK (f := f) hp kx hok (hb (by simp)) hq
    cases e1
    exact ⟨p, dv, x :: ps, rfl, rfl, e2, e3, e4, e5, (fun e => nomatch e), fun x' qs e => by cases e; exact e6⟩
theorem minI_best {ns : List Int} {m : Int} (h : minI ns = some m) : bestT PySem.W.dataLt (ns.map .int) = some (.int m) := by
  cases ns with
  | nil => cases h
  | cons n ns =>
    cases h
    show some _ = _
    congr 1
    induction ns generalizing n with
    | nil => rfl
    | cons a ns ih =>
      rw [List.map_cons, List.foldl_cons, List.foldl_cons, ← ih]
      congr 1
      have : PySem.W.dataLt (T.int a).toD (T.int n).toD = decide (a < n) := PySem.W.dataLt_int a n
      rw [this]
      by_cases h : a < n <;> simp [h]
theorem maxI_best {ns : List Int} {m : Int} (h : maxI ns = some m) : bestT (fun a b => PySem.W.dataLt b a) (ns.map .int) = some (.int m) := by
  cases ns with
  | nil => cases h
  | cons n ns =>
    cases h
    show some _ = _
    congr 1
    induction ns generalizing n with
    | nil => rfl
    | cons a ns ih =>
      rw [List.map_cons, List.foldl_cons, List.foldl_cons, ← ih]
      congr 1
      have : PySem.W.dataLt (T.int n).toD (T.int a).toD = decide (n < a) := PySem.W.dataLt_int n a
      by_cases h : n < a <;> simp [this, h]
theorem RpB.inv2' {t u : T} {xs zs : List V} (h : RpB C S H [t, u] (xs ++ zs)) (h1 : xs.length = 1) : ∃ x y F F', xs = [x] ∧ zs = [y] ∧ Rp C S H t x F ∧ Rp C S H u y F' := by
  obtain ⟨x, y, F, F', e, rx, ry⟩ := h.inv2
  cases xs with
  | nil => cases h1
  | cons a r =>
    cases r with
    | cons _ _ => simp at h1
    | nil =>
      simp only [List.cons_append, List.nil_append, List.cons.injEq] at e
      obtain ⟨rfl, rfl⟩ := e
      exact ⟨_, _, _, _, rfl, rfl, rx, ry⟩
theorem ok_minDf (hK : C.K = X.K) (hc : X.calm = true) (hu : X.A.units + 64 < cLine) : CallRK X (.builtin "min") [Str.ofString "default"] (fun xs zs H Q => xs.length = 1 ∧ rOp C .minDf (xs ++ zs) H Q) := by
  intro pins s σ H xs zs us ws Q I r rz h
  obtain ⟨h1, S, ts, t, hr, hf, hd, ho, hq⟩ := h
  replace ho : minDfT ts = some t := ho
  unfold minDfT at ho
  split at ho
  · rename_i o d
    obtain ⟨x, y, F, F', rfl, rfl, rx, ry⟩ := hr.inv2' h1
    obtain ⟨p, vs, ex, hp, kx⟩ := rx.kids (hf _ (by simp))
    subst ex
    split at ho
    · rename_i hdd
      cases ho
      exact cr_minDf hc hu pins s σ H _ _ us ws Q I r rz (dfl_rel hK hp kx ry rfl (fun _ => ⟨hdd, rfl⟩) (fun z => absurd rfl z) fun x rx => rq hq rx)
    · cases ho
  · rename_i o z zs' d
    obtain ⟨x, y, F, F', rfl, rfl, rx, ry⟩ := hr.inv2' h1
    obtain ⟨p, vs, ex, hp, kx⟩ := rx.kids (hf _ (by simp))
    subst ex
    unfold minT at ho
    simp only at ho
    split at ho
    · rename_i ns h2
      obtain ⟨m, hm, rfl⟩ := Option.map_eq_some_iff.mp ho
      have e : z :: zs' = ns.map T.int := (ints_rel kx h2).2
      refine cr_minDf hc hu pins s σ H _ _ us ws Q I r rz (dfl_rel hK hp kx ry (by rw [e]; exact dataOk_ints ns) (fun z => by cases z) (fun _ => by rw [e]; exact minI_best hm) fun x rx => rq hq rx)
    · split at ho
      · rename_i hok
        exact cr_minDf hc hu pins s σ H _ _ us ws Q I r rz (dfl_rel hK hp kx ry hok (fun z => by cases z) (fun _ => ho) fun x rx => rq hq rx)
      · cases ho
  · cases ho
theorem ok_maxDf (hK : C.K = X.K) (hc : X.calm = true) (hu : X.A.units + 64 < cLine) : CallRK X (.builtin "max") [Str.ofString "default"] (fun xs zs H Q => xs.length = 1 ∧ rOp C .maxDf (xs ++ zs) H Q) := by
  intro pins s σ H xs zs us ws Q I r rz h
  obtain ⟨h1, S, ts, t, hr, hf, hd, ho, hq⟩ := h
  replace ho : maxDfT ts = some t := ho
  unfold maxDfT at ho
  split at ho
  · rename_i o d
    obtain ⟨x, y, F, F', rfl, rfl, rx, ry⟩ := hr.inv2' h1
    obtain ⟨p, vs, ex, hp, kx⟩ := rx.kids (hf _ (by simp))
    subst ex
    split at ho
    · rename_i hdd
      cases ho
      exact cr_maxDf hc hu pins s σ H _ _ us ws Q I r rz (dfl_rel hK hp kx ry rfl (fun _ => ⟨hdd, rfl⟩) (fun z => absurd rfl z) fun x rx => rq hq rx)
    · cases ho
  · rename_i o z zs' d
    obtain ⟨x, y, F, F', rfl, rfl, rx, ry⟩ := hr.inv2' h1
    obtain ⟨p, vs, ex, hp, kx⟩ := rx.kids (hf _ (by simp))
    subst ex
    unfold maxT at ho
    simp only at ho
    split at ho
    · rename_i ns h2
      obtain ⟨m, hm, rfl⟩ := Option.map_eq_some_iff.mp ho
      have e : z :: zs' = ns.map T.int := (ints_rel kx h2).2
      refine cr_maxDf hc hu pins s σ H _ _ us ws Q I r rz (dfl_rel hK hp kx ry (by rw [e]; exact dataOk_ints ns) (fun z => by cases z) (fun _ => by rw [e]; exact maxI_best hm) fun x rx => rq hq rx)
    · split at ho
      · rename_i hok
        exact cr_maxDf hc hu pins s σ H _ _ us ws Q I r rz (dfl_rel hK hp kx ry hok (fun z => by cases z) (fun _ => ho) fun x rx => rq hq rx)
      · cases ho
  · cases ho
def rSortedDR (K : PySem.W.Frag) : List V → List V → Hp → VK → Prop := fun vs zs H Q => ∃ (a : Addr) (ps : List (T × V)), vs = [.ref a] ∧ zs = [.bl true] ∧ SqL K H a (ps.map Prod.snd) ∧ (∀ p ∈ ps, Dp K H p.2 p.1.toD) ∧ PySem.W.AllAlike (ps.map fun p => p.1.toD) ∧ PySem.W.Sortable (ps.map fun p => p.1.toD) ∧ (∀ p ∈ ps, p.1.toD.depth ≤ 60) ∧
  ∀ q, H q = none → Q (.ref q) (upd H q (.lst ((ps.mergeSort (PySem.W.dataLe true fun p => p.1.toD)).map Prod.snd)))
theorem cr_sortedDR (hu : X.A.units + 64 < cLine) : CallRK X (.builtin "sorted") [Str.ofString "reverse"] (rSortedDR X.K) := by
  intro pins s σ H vs zs us ws Q I r rz h
  obtain ⟨a, ps, rfl, rfl, hs, hd, hal, hk, hdep, q⟩ := h
  obtain ⟨its, rv, hl, hz⟩ := I.list hs
  rw [Vals.ref1 r]
  obtain ⟨w1, rfl, e1⟩ := vals1 rz
  obtain rfl : w1 = Value.bool true := e1
  have e := each_of_vals rv
  have hz' : ps.length ≤ sizeLine := by rwa [List.length_map] at hz
  refine PySem.W.sorted_rev_data (R := fun v (p : T × V) => RelV p.2 v) (enc := fun p : T × V => p.1.toD) hl.isList e (each_reads I e hd) hal hk hz' (fun b hb => by have := hdep b hb; omega) fun out ho eo => ?_
  obtain ⟨ep, he'⟩ := PyProof.Rows.sortedAll_at s.heap its out.toArray
  have hlen : ((ps.mergeSort (PySem.W.dataLe true fun p => p.1.toD)).map Prod.snd).length ≤ sizeLine := by
    rw [List.length_map, List.length_mergeSort]
    exact hz'
  exact ⟨.ref _, upd H (s.heap.objs.size + 1) (.lst ((ps.mergeSort (PySem.W.dataLe true fun p => p.1.toD)).map Prod.snd)), I.laid (t' := s.toks) (fun _ _ => PyProof.Rows.sortedAll_old) (Nat.le_succ _) ⟨hlen, out, ep, vals_of_each eo, he'⟩, rfl, q _ (I.hok.fresh (Nat.le_succ _))⟩
theorem sortRI_sorted (ns : List Int) : (sortRI ns).Pairwise (· ≥ ·) := by
  have h := List.pairwise_mergeSort (le := fun a b : Int => decide (b ≤ a)) (by intro a b c; simp; omega) (by intro a b; simp; omega) ns
  exact h.imp fun h => of_decide_eq_true h
theorem sortRI_uniq {ns ms : List Int} (hp : ms.Perm ns) (hs : ms.Pairwise (· ≥ ·)) : ms = sortRI ns :=
  List.Perm.eq_of_pairwise (fun a b _ _ h1 h2 => Int.le_antisymm h2 h1) hs (sortRI_sorted ns) (hp.trans (List.mergeSort_perm ns _).symm)
theorem ok_sortR (hK : C.K = X.K) (hu : X.A.units + 64 < cLine) : CallRK X (.builtin "sorted") [Str.ofString "reverse"] (fun xs zs H Q => xs.length = 1 ∧ rOp C .sortR (xs ++ zs) H Q) := by
  intro pins s σ H xs zs us ws Q I r rz h
  obtain ⟨h1, S, ts, t, hr, hf, hd, ho, hq⟩ := h
  replace ho : sortRT ts = some t := ho
  unfold sortRT at ho
  split at ho
  · rename_i o ys
    obtain ⟨x, y, F, F', rfl, rfl, rx, ry⟩ := hr.inv2' h1
    obtain ⟨p, vs, ex, hp, kx⟩ := rx.kids (hf _ (by simp))
    subst ex
    have ey := ry.1
    subst ey
    split at ho
    · rename_i ns h2
      cases ho
      have e := (ints_rel kx h2).1
      subst e
      refine cr_sortedRev (b := true) pins s σ H _ _ us ws Q I r rz ⟨p, ns, rfl, rfl, .of hp, fun ns' l hpm hpw hl => ?_⟩
      rw [sortRI_uniq hpm (by simpa [OrdB] using hpw)]
      obtain ⟨z1, z2, z3, z4⟩ := rp_new (rpl_ints (sortRI ns) S H) hd hl
      exact hq _ _ _ z1 z2 z3 z4
    · split at ho
      · rename_i hok
        cases ho
        have hall := List.all_eq_true.mp (show (ys.all fun x => isTup1 x && x.hard && decide (x.toD.depth ≤ 60) && ys.all fun y => PySem.W.alike x.toD y.toD) = true from hok)
        have hx : ∀ x ∈ ys, isTup1 x = true ∧ x.hard = true ∧ x.toD.depth ≤ 60 ∧ ∀ y ∈ ys, PySem.W.alike x.toD y.toD = true := fun x hx => by
          have := hall x hx
          simp only [Bool.and_eq_true, decide_eq_true_eq, List.all_eq_true] at this
          exact ⟨this.1.1.1, this.1.1.2, this.1.2, this.2⟩
        obtain ⟨q1, q2, q3⟩ := rpl_zip kx
        have q3 := q3 fun z hz => (hx z hz).2.1
        have mem : ∀ p ∈ ys.zip vs, p.1 ∈ ys := fun p hp => by rw [← q1]; exact List.mem_map.mpr ⟨p, hp, rfl⟩
        have em : (ys.zip vs).map (fun p => p.1.toD) = ys.map T.toD := by
          rw [show (ys.zip vs).map (fun p => p.1.toD) = ((ys.zip vs).map Prod.fst).map T.toD by rw [List.map_map]; rfl, q1]
        refine cr_sortedDR hu pins s σ H _ _ us ws Q I r rz ⟨p, ys.zip vs, rfl, rfl, ?_, fun p hp => ?_, ?_, ?_, fun p hp => (hx _ (mem p hp)).2.2.1, fun l hl => ?_⟩
        · rw [q2]; exact .of hp
        · rw [← hK]
          exact Rp.dp _ _ _ (Rp.hardF _ _ _ (hx _ (mem p hp)).2.1 (q3 p hp)).2 (q3 p hp)
        · rw [em]
          intro d hd d' hd'
          obtain ⟨x, hx1, rfl⟩ := List.mem_map.mp hd
          obtain ⟨y, hy1, rfl⟩ := List.mem_map.mp hd'
          exact (hx x hx1).2.2.2 y hy1
        · rw [em]
          refine .inl fun d hd => ?_
          obtain ⟨x, hx1, rfl⟩ := List.mem_map.mp hd
          have h1 := (hx x hx1).1
          unfold isTup1 at h1
          split at h1
          · rename_i a r
            exact ⟨a.toD, T.toDL r, rfl⟩
          · cases h1
        · have hs := List.map_mergeSort (r := PySem.W.dataLe true fun p : T × V => p.1.toD) (s := geD) (f := Prod.fst) (l := ys.zip vs) fun a _ b _ => rfl
          rw [q1] at hs
          have kz := rpl_pairs (C := C) (S := S) (H := H) (ps := (ys.zip vs).mergeSort (PySem.W.dataLe true fun p => p.1.toD)) fun p hp => q3 p ((List.mergeSort_perm _ _).mem_iff.mp hp)
          rw [hs] at kz
          obtain ⟨z1, z2, z3, z4⟩ := rp_new kz hd hl
          exact hq _ _ _ z1 z2 z3 z4
      · cases ho
  · cases ho
theorem ok_lidx (hK : C.K = X.K) {x y : V} {Q : VK} (h : rOp C .lidx [x, y] H Q) : ∃ a vs, x = .ref a ∧ SqL X.K H a vs ∧ rIndex X.K x [y] H Q := by
  obtain ⟨S, ts, t, hr, hf, hd, ho, hq⟩ := h
  replace ho : lidxS ts = some t := ho
  unfold lidxS at ho
  split at ho
  · rename_i o zs w
    obtain ⟨x', y', F, F', e, rx, ry⟩ := hr.inv2
    cases e
    obtain ⟨p, vs, ex, hp, kx⟩ := rx.kids (hf _ (by simp))
    subst ex
    split at ho
    · rename_i hfl
      rw [Bool.and_eq_true] at hfl
      obtain ⟨j, hj, rfl⟩ := Option.map_eq_some_iff.mp ho
      rw [List.findIdx?_eq_some_iff_getElem] at hj
      obtain ⟨hlt, hy, hno⟩ := hj
      have fl : ∀ (ts : List T) (vs : List V) (F : List Addr), RpL C S H ts vs F → ts.all T.flat = true → vs.all flatV = true := by
        intro ts
        induction ts with
        | nil => intro vs F h _; rw [h.1]; rfl
        | cons t ts ih =>
          intro vs F ⟨v, ws, F1, F2, e, _, r1, r2⟩ hall
          rw [List.all_cons, Bool.and_eq_true] at hall
          subst e
          rw [List.all_cons, ih ws F2 r2 hall.2, flat_rel r1 hall.1]; rfl
      refine ⟨p, vs, rfl, .of hp, ?_⟩
      obtain ⟨z, F1, hz, rz, _⟩ := kx.get (List.getElem?_eq_getElem hlt)
      refine ⟨p, vs, y, j, z, rfl, rfl, .of hp, flat_rel ry hfl.1, fl _ _ _ kx hfl.2, hz, ?_, fun m z' hm hz' => ?_, rq hq (rp_i S H)⟩
      · rw [eqF_rel rz ry (List.all_eq_true.mp hfl.2 _ (List.getElem_mem hlt)) hfl.1]; exact hy
      · have hm' : m < zs.length := by omega
        obtain ⟨z2, F2, hz2, rz2, _⟩ := kx.get (List.getElem?_eq_getElem hm')
        rw [hz2] at hz'
        cases hz'
        rw [eqF_rel rz2 ry (List.all_eq_true.mp hfl.2 _ (List.getElem_mem hm')) hfl.1]
        simpa using hno m hm
    · cases ho
  · cases ho
/-- an item of a list, by its place -/
theorem pget_list : PGet X (rIxL X.K) := by
  intro pins s σ H x y v u Q I rx ry h
  obtain ⟨p, xs, i, z, rfl, rfl, hq, he, q⟩ := h
  cases rx
  obtain ⟨t, rfl⟩ := ry
  obtain ⟨its, r, pl, hz⟩ := I.list hq
  obtain ⟨j, h1, h2, h3, h4, h5⟩ := atI_get he
  obtain ⟨w, ew, rw'⟩ := r.get h2
  have hl := r.length
  have hn := line63
  have fin : EP X pins σ Q w s := ⟨z, H, I, rw', q⟩
  by_cases h0 : 0 ≤ i
  · have hj : i.toNat = j := by
      rw [seqIndex_of h0 h5] at h1
      exact Option.some.inj h1
    exact wpAny_getItem_list pl.isList h0 (by omega) (by rw [hj]; simpa using ew) fin
  · have hj : (i + (its.toArray.size : Int)).toNat = j := by
      rw [seqIndex_neg (by omega) h4] at h1
      rw [List.size_toArray, ← hl]
      exact Option.some.inj h1
    exact wpAny_getItem_list_neg pl.isList (by omega) (by rw [List.size_toArray] <;> omega) (by omega) (by rw [hj]; simpa using ew) fin
end Kv

/-! Kv 6: the check of an expression against the small syntax; calls; its soundness. -/
namespace Kv
open PySem L2

/-- a def as its callers see it -/
structure FInfo where
  name : Str
  ps : List Str
  io : List Bool
  /-- calls with names or defaults: values written, names, the order, the defaults behind them -/
  kd : List (Nat × List Str × List Nat × List T) := []
  /-- may all its parameters be given by place -/
  pos : Bool := true
/-- the text: its defs, the built-ins that it does not bind, its constants -/
structure Prg where
  fns : List FInfo
  bi : List Str
  cn : List (Str × T)
  cls : List (Str × Nat)
  hots : List Nat := []
  ho : List Nat := []
/-- where one stands: the names by slot, the scope; hot: an exception is handled -/
structure Nm where
  N : List Str
  sc : Scope
  hot : Bool
  fn : Str → Bool
/-- .. within a comprehension's block -/
def Nm.blk (Z : Nm) (scope : Scope) : Nm := { N := Z.N, sc := relS scope Z.sc, hot := Z.hot, fn := fun x => scope.names.lookup x == some .cell }

def visB (sc : Scope) (x : Str) : Bool := match sc.names.lookup x with
  | some .local => true
  | some .cell => true
  | some .free => true
  | _ => false
def glB (sc : Scope) (x : Str) : Bool := decide (sc.names.lookup x = some .globalImplicit)
def noDbg (x : Str) : Bool := !(x == ("__debug__" : Str)) && !(x == ("__classdict__" : Str))
def isNm (Z : Nm) (e : Expr) (i : Nat) : Bool := match e with
  | .Name x _ => decide (Z.N[i]? = some x) && visB Z.sc x && noDbg x
  | _ => false
def eqK : T → T → Bool
  | .int a, .int b => decide (a = b)
  | .str a, .str b => decide (a = b)
  | .bl a, .bl b => decide (a = b)
  | .non, .non => true
  | _, _ => false
def chkK (P : Prg) (Z : Nm) (e : Expr) (t : T) : Bool := match e with
  | .Constant (.int i) _ _ => eqK (.int i) t
  | .Constant (.str i) _ _ => eqK (.str i) t
  | .Constant (.bool i) _ _ => eqK (.bl i) t
  | .Constant .none _ _ => eqK .non t
  | .Name x _ => glB Z.sc x && noDbg x && (match P.cn.lookup x with | some u => eqK u t | none => false)
  | _ => false
def binO : Operator → Option Op
  | .Add => some .add | .Sub => some .sub | .Mult => some .mul | .FloorDiv => some .fdiv | .Mod => some .mod | .Pow => some .pow
  | _ => none
def cmpO : CmpOp → Option Op
  | .Eq => some .eq | .NotEq => some .ne | .Lt => some .lt | .LtE => some .le | .Gt => some .gt | .GtE => some .ge
  | .In => some .inn | .NotIn => some .notin
  | _ => none
/-- an order of ints -/
def ordO : Op → Bool
  | .lt => true | .le => true | .gt => true | .ge => true
  | _ => false
/-- the built-ins that are called by name: their operator, whether they want that nothing is handled -/
def bltO (x : Str) (k : Nat) : Option (Op × Bool) :=
  if x = ("len" : Str) ∧ k = 1 then some (.len, false) else if x = ("abs" : Str) ∧ k = 1 then some (.abs, false) else if x = ("int" : Str) ∧ k = 1 then some (.toInt, false)
  else if x = ("min" : Str) ∧ k = 2 then some (.min2, true) else if x = ("max" : Str) ∧ k = 2 then some (.max2, true)
  else if x = ("list" : Str) ∧ k = 1 then some (.toList, false) else if x = ("tuple" : Str) ∧ k = 1 then some (.toTup, false) else none
def bltP (x : Str) (k : Nat) : Option (Op × Bool) :=
  if x = ("sum" : Str) ∧ k = 1 then some (.sumL, true) else if x = ("max" : Str) ∧ k = 1 then some (.maxL, true) else if x = ("min" : Str) ∧ k = 1 then some (.minL, true)
  else if x = ("any" : Str) ∧ k = 1 then some (.anyL, true) else if x = ("all" : Str) ∧ k = 1 then some (.allL, true) else if x = ("sorted" : Str) ∧ k = 1 then some (.sortL, false) else if x = ("str" : Str) ∧ k = 1 then some (.str, false)
  else if x = ("min" : Str) ∧ k = 3 then some (.min3, true) else if x = ("max" : Str) ∧ k = 3 then some (.max3, true) else none
/-- built-ins with one name -/
def bltK (x k : Str) : Option Op :=
  if x = ("max" : Str) ∧ k = ("default" : Str) then some .maxDf else if x = ("min" : Str) ∧ k = ("default" : Str) then some .minDf else if x = ("sorted" : Str) ∧ k = ("reverse" : Str) then some .sortR else none
def bltQ (x : Str) (k : Nat) : Option (Op × Bool) := match bltO x k with
  | some r => some r
  | none => bltP x k
def tyNm (n : String) : Bool := n == "int" || n == "bool" || n == "str" || n == "list" || n == "tuple"
def Es.len : Es → Nat
  | .nil => 0
  | .e _ r => r.len + 1
  | .v _ r => r.len + 1
/-- names stand where parameters are changed in place -/
def Es.ioOk : Es → List Bool → Bool
  | .nil, [] => true
  | .e _ r, b :: bs => !b && r.ioOk bs
  | .v _ r, b :: bs => b && r.ioOk bs
  | _, _ => false
def notStar : Expr → Bool
  | .Starred _ _ => false
  | _ => true
def locB (Z : Nm) (x : Str) : Bool := match Z.sc.names.lookup x with
  | some .local => true
  | some .cell => Z.fn x
  | _ => false
def isLoc (Z : Nm) (e : Expr) (i : Nat) : Bool := match e with
  | .Name x _ => decide (Z.N[i]? = some x) && locB Z x
  | _ => false
def areLoc (Z : Nm) : List Expr → List Nat → Bool
  | [], [] => true
  | e :: es, i :: is => isLoc Z e i && areLoc Z es is
  | _, _ => false
def chkTg (Z : Nm) (e : Expr) (tg : Tg) : Bool := match tg with
  | .one i => isLoc Z e i
  | .many is => match e with
    | .Tuple es _ _ => areLoc Z es is
    | _ => false
def ownN : List Expr → List Nat → List (Str × Nat)
  | .Name x _ :: es, i :: is => (x, i) :: ownN es is
  | _, _ => []
def tgOwn (e : Expr) (tg : Tg) : List (Str × Nat) := match tg with
  | .one i => ownN [e] [i]
  | .many is => match e with
    | .Tuple es _ _ => ownN es is
    | _ => []
def notSet : Expr → Bool
  | .Set _ _ _ => false
  | _ => true
def isTrueK : E → Bool
  | .k (.bl true) => true
  | _ => false
def notSlice : Expr → Bool
  | .Slice _ _ _ _ => false
  | _ => true
def isTup : Expr → Bool
  | .Tuple _ _ _ => true
  | _ => false
def itTup : It → Bool
  | .enm _ => true
  | .zip _ => true
  | _ => false
/-- names of classes -/
def clsNs (P : Prg) (Z : Nm) : List Expr → List Nat → Bool
  | [], [] => true
  | .Name x _ :: es, c :: cs => glB Z.sc x && noDbg x && decide (P.cls.lookup x = some c) && clsNs P Z es cs
  | _, _ => false
def isName : Expr → Bool
  | .Name _ _ => true
  | _ => false
def Sc.ok (P : Prg) (Z : Nm) (e : Expr) (c : Sc) : Bool := chkK P Z e c.t
/-- a display of a dict: names and constants alone -/
def dspOk (P : Prg) (Z : Nm) : List (Option Expr) → List Expr → List (Str × Sc) → Bool
  | [], [], [] => true
  | some k :: ks, v :: vs, (a, c) :: r => chkK P Z k (.str a) && chkK P Z v c.t && dspOk P Z ks vs r
  | _, _, _ => false
/-- methods of texts -/
def mthO (m : Str) (as : List Expr) : Option Op := match as with
  | [] => if m = ("upper" : Str) then some .upper else if m = ("split" : Str) then some .words else none
  | [.Constant (.str b) _ _] => if m = ("split" : Str) then some (.split b) else none
  | [.Constant (.bool true) _ _] => if m = ("count" : Str) then some .cntT else none
  | _ => none
/-- methods with one argument -/
def mthB (m : Str) : Option Op := if m = ("index" : Str) then some .lidx else none
def okBase : Expr → Bool
  | .Name _ _ => true
  | .Call _ (_ :: _) _ _ => true
  | .Subscript _ _ _ => true
  | _ => false
def Es.take : Nat → Es → Es
  | n + 1, .e a r => .e a (Es.take n r)
  | n + 1, .v i r => .v i (Es.take n r)
  | _, _ => .nil
def Es.drop : Nat → Es → Es
  | n + 1, .e _ r => Es.drop n r
  | n + 1, .v _ r => Es.drop n r
  | _, r => r
def eqKs : List T → List T → Bool
  | [], [] => true
  | a :: r, b :: s => eqK a b && eqKs r s
  | _, _ => false
mutual
def chkE (P : Prg) : Nm → Nat → Expr → E → Bool
  | _, 0, _, _ => false
  | Z, n + 1, e, e' => notStar e && match e' with
    | .k t => chkK P Z e t
    | .var i => isNm Z e i
    | .mv i => isNm Z e i
    | .mvi v i => (match e with
      | .Subscript a (.Constant (.int j) _ _) _ => isNm Z a v && decide (j = (i : Int))
      | _ => false)
    | .op o es => (match e with
      | .BinOp a op b _ => decide (binO op = some o) && chkA P Z n [a, b] es
      | .UnaryOp .USub a _ => decide (o = .neg) && chkA P Z n [a] es
      | .Compare a [op] [b] _ => (decide (cmpO op = some o) && notSet b && chkA P Z n [a, b] es) ||
          (match op, b with
            | .Is, .Constant .none _ _ => decide (o = .isN) && chkA P Z n [a] es
            | .IsNot, .Constant .none _ _ => decide (o = .notN) && chkA P Z n [a] es
            | _, _ => false)
      | .Subscript a (.Slice none none none _) _ => decide (o = .slice false false) && chkA P Z n [a] es
      | .Subscript a (.Slice (some l) none none _) _ => decide (o = .slice true false) && chkA P Z n [a, l] es
      | .Subscript a (.Slice none (some h) none _) _ => decide (o = .slice false true) && chkA P Z n [a, h] es
      | .Subscript a b _ => notSlice b && (decide (o = .idx) || decide (o = .dget)) && chkA P Z n [a, b] es
      | .Call (.Name f _) as [] _ => glB Z.sc f && noDbg f && decide (f ∈ P.bi) &&
          ((match bltQ f as.length with | some (o', c) => decide (o' = o) && (!c || !Z.hot) && chkA P Z n as es | none => false) ||
            (match as, o with
              | [a, .Name ty _], .isT s => decide (f = ("isinstance" : Str)) && tyNm s && decide (ty = Str.ofString s) && glB Z.sc ty && noDbg ty && decide (ty ∈ P.bi) && chkA P Z n [a] es
              | [a, .Name ty _], .isE [c] => decide (f = ("isinstance" : Str)) && Z.hot && glB Z.sc ty && noDbg ty && (decide (P.cls.lookup ty = some c) || (decide (ty = ("ValueError" : Str)) && decide (c = 0) && decide (ty ∈ P.bi))) && chkA P Z n [a] es
              | [a, .Tuple ts _ _], .isE cs => decide (f = ("isinstance" : Str)) && Z.hot && decide (cs.length ≤ 100) && clsNs P Z ts cs && chkA P Z n [a] es
              | [.Call (.Name r _) as' [] _], .lrange => decide (f = ("list" : Str)) && !Z.hot && decide (r = ("range" : Str)) && glB Z.sc r && decide (r ∈ P.bi) && (decide (as'.length = 1) || decide (as'.length = 2)) && chkA P Z n as' es
              | _, _ => false))
      | .Call (.Attribute (.Constant (.str z) zp zk) m mp) [b] [] cp => decide (m = ("join" : Str)) && decide (o = .join) && (mp.endLine == cp.line) && chkA P Z n [.Constant (.str z) zp zk, b] es
      | .Call (.Name f _) [a] [⟨some k, d, _⟩] _ => glB Z.sc f && noDbg f && decide (f ∈ P.bi) && !Z.hot && decide (bltK f k = some o) && chkA P Z n [a] (es.take 1) && chkA P Z n [d] (es.drop 1)
      | .Call (.Attribute a m mp) as [] cp => okBase a && (mp.endLine == cp.line) && decide (mthO m as = some o) && chkA P Z n [a] es
      | .Attribute a f _ => Z.hot && decide (o = .fld f) && isName a && chkA P Z n [a] es
      | .Dict ks vs _ => (match o with
        | .dsp kvs => decide (0 < kvs.length) && decide (kvs.length ≤ 15) && dspOk P Z ks vs kvs && chkA P Z n [] es
        | _ => false)
      | _ => false)
    | .lst es => (match e with
      | .List as _ => chkA P Z n as es
      | _ => false)
    | .tup es => (match e with
      | .Tuple as _ _ => chkA P Z n as es
      | _ => false)
    | .and a b => (match e with
      | .BoolOp .And (x :: y :: r) p => chkE P Z n x a && (match r with | [] => chkE P Z n y b | _ => chkE P Z n (.BoolOp .And (y :: r) p) b)
      | _ => false)
    | .or a b => (match e with
      | .BoolOp .Or (x :: y :: r) p => chkE P Z n x a && (match r with | [] => chkE P Z n y b | _ => chkE P Z n (.BoolOp .Or (y :: r) p) b)
      | _ => false)
    | .not a => (match e with
      | .UnaryOp .Not x _ => chkE P Z n x a
      | _ => false)
    | .ite c a b => (match e with
      | .IfExp x y z _ => chkT P Z n x c && chkE P Z n y a && chkE P Z n z b
      | _ => false)
    | .chain o p a b c => (match e with
      | .Compare x [o', p'] [y, z] _ => decide (cmpO o' = some o) && decide (cmpO p' = some p) && ordO o && ordO p && chkE P Z n x a && chkE P Z n y b && chkE P Z n z c
      | _ => false)
    | .mtB o v b' => (match e with
      | .Call (.Attribute a m mp) [b] [] cp => isNm Z a v && (mp.endLine == cp.line) && decide (mthB m = some o) && chkE P Z n b b'
      | _ => false)
    | .pk2 v k c => (match e with
      | .Subscript (.Subscript a (.Constant (.int j) _ _) _) (.Subscript b (.Constant (.int l) _ _) _) _ => isNm Z a v && isNm Z b v && decide (j = (k : Int)) && decide (l = (c : Int))
      | _ => false)
    | .pkl v k => (match e with
      | .Call (.Name f _) [.Subscript a (.Constant (.int j) _ _) _] [] _ => decide (f = ("len" : Str)) && glB Z.sc f && noDbg f && decide (f ∈ P.bi) && isNm Z a v && decide (j = (k : Int))
      | _ => false)
    | .pki v k => (match e with
      | .Subscript a (.Constant (.int j) _ _) _ => isNm Z a v && decide (j = (k : Int))
      | _ => false)
    | .hld _ e' => (match e with
      | .Call _ _ _ _ => chkE P Z n e e'
      | _ => false)
    | .slv v lo hi => (match e with
      | .Subscript a (.Slice (some l) (some h) none _) _ => isNm Z a v && chkE P Z n l lo && chkE P Z n h hi
      | _ => false)
    | .callB f es => (match e with
      | .Call (.Name x _) as [] _ => ((!Z.hot && !decide (f ∈ P.ho)) || (Z.hot && decide (f ∈ P.hots))) && glB Z.sc x && (match P.fns[f]? with | some i => decide (i.name = x) && noDbg x && decide (0 < as.length) && decide (as.length = i.ps.length) && decide (i.io = i.ps.map fun _ => false) && chkA P Z n as es && i.pos | none => false)
      | _ => false)
    | .callF f es => (match e with
      | .Call (.Name x _) as [] _ => ((!Z.hot && !decide (f ∈ P.ho)) || (Z.hot && decide (f ∈ P.hots))) && glB Z.sc x && (match P.fns[f]? with | some i => decide (i.name = x) && noDbg x && decide (0 < as.length) && decide (as.length = i.ps.length) && decide (i.io = i.ps.map fun _ => false) && chkA P Z n as es && i.pos | none => false)
      | _ => false)
    | .callK f m perm dfl es => (match e with
      | .Call (.Name x _) as kws _ => !Z.hot && !decide (f ∈ P.ho) && glB Z.sc x && (match P.fns[f]? with | some i => decide (i.name = x) && noDbg x && decide (perm.length = i.io.length) && decide (i.io = i.ps.map fun _ => false) && decide (as.length = m) && i.kd.any (fun q => decide (q.1 = m) && decide (kws.map (·.arg) = q.2.1.map some) && decide (q.2.2.1 = perm) && eqKs q.2.2.2 dfl) && chkA P Z n as (es.take m) && chkA P Z n (kws.map (·.value)) (es.drop m) | none => false)
      | _ => false)
    | .callI f es => (match e with
      | .Call (.Name x _) as [] _ => !Z.hot && !decide (f ∈ P.ho) && glB Z.sc x && (match P.fns[f]? with | some i => decide (i.name = x) && noDbg x && decide (0 < as.length) && decide (as.length = i.ps.length) && es.ioOk i.io && chkA P Z n as es && i.pos | none => false)
      | _ => false)
    | .comp tg it cd el => (match e with
      | .ListComp elt [⟨t, iter, ifs, 0⟩] scope _ => !Z.hot && chkTg (Z.blk scope) t tg && blkC Z.N Z.sc scope (tgOwn t tg) && ((!itTup it || isTup t) && chkIt P Z n iter it) && chkE P (Z.blk scope) n elt el &&
          (match ifs with
            | [] => isTrueK cd
            | [c] => chkT P (Z.blk scope) n c cd
            | _ => false)
      | _ => false)
def chkIt (P : Prg) : Nm → Nat → Expr → It → Bool
  | _, 0, _, _ => false
  | Z, n + 1, e, it => notSet e && (match it with
    | .e a => chkE P Z n e a
    | .v i => isNm Z e i
    | .rng es => (match e with
      | .Call (.Name f _) as [] _ => decide (f = ("range" : Str)) && glB Z.sc f && decide (f ∈ P.bi) && (decide (as.length = 1) || decide (as.length = 2)) && chkA P Z n as es
      | _ => false)
    | .enm x => (match e with
      | .Call (.Name f _) [y] [] _ => decide (f = ("enumerate" : Str)) && glB Z.sc f && decide (f ∈ P.bi) && chkE P Z n y x
      | _ => false)
    | .rev x => (match e with
      | .Call (.Name f _) [y] [] _ => decide (f = ("reversed" : Str)) && glB Z.sc f && decide (f ∈ P.bi) && chkE P Z n y x
      | _ => false)
    | .zip es => (match e with
      | .Call (.Name f _) [y, z] [] _ => decide (f = ("zip" : Str)) && glB Z.sc f && decide (f ∈ P.bi) && chkA P Z n [y, z] es
      | _ => false)
    | .rng3 es => (match e with
      | .Call (.Name f _) [x, y, z] [] _ => decide (f = ("range" : Str)) && glB Z.sc f && decide (f ∈ P.bi) && chkA P Z n [x, y, z] es
      | _ => false)
    | .revR es => (match e with
      | .Call (.Name f _) [.Call (.Name r _) as [] _] [] _ => decide (f = ("reversed" : Str)) && glB Z.sc f && decide (f ∈ P.bi) && decide (r = ("range" : Str)) && glB Z.sc r && decide (r ∈ P.bi) && (decide (as.length = 1) || decide (as.length = 2)) && chkA P Z n as es
      | _ => false))
def chkT (P : Prg) : Nm → Nat → Expr → E → Bool
  | _, 0, _, _ => false
  | Z, n + 1, e, e' => (match e, e' with
    | .UnaryOp .Not x _, .not a => chkT P Z n x a
    | .BoolOp .And (x :: y :: r) p, .and a b => chkT P Z n x a && (match r with | [] => chkT P Z n y b | _ => chkT P Z n (.BoolOp .And (y :: r) p) b)
    | .BoolOp .Or (x :: y :: r) p, .or a b => chkT P Z n x a && (match r with | [] => chkT P Z n y b | _ => chkT P Z n (.BoolOp .Or (y :: r) p) b)
    | .Compare x [o', p'] [y, z] _, .chain o p a b c => decide (cmpO o' = some o) && decide (cmpO p' = some p) && ordO o && ordO p && chkE P Z n x a && chkE P Z n y b && chkE P Z n z c
    | .Compare a [op] [b] _, .op o es => (decide (cmpO op = some o) && notSet b && chkA P Z n [a, b] es) ||
          (match op, b with
            | .Is, .Constant .none _ _ => decide (o = .isN) && chkA P Z n [a] es
            | .IsNot, .Constant .none _ _ => decide (o = .notN) && chkA P Z n [a] es
            | _, _ => false)
    | .Name x p, .op .truL (.v i .nil) => isNm Z (.Name x p) i
    | .Name _ _, _ => chkE P Z n e e'
    | .Call _ _ _ _, _ => chkE P Z n e e'
    | .Constant _ _ _, _ => chkE P Z n e e'
    | .Subscript _ _ _, _ => chkE P Z n e e'
    | .Attribute _ _ _, _ => chkE P Z n e e'
    | _, _ => false)
def chkA (P : Prg) : Nm → Nat → List Expr → Es → Bool
  | _, 0, _, _ => false
  | _, _ + 1, [], .nil => true
  | Z, n + 1, a :: r, .e a' r' => chkE P Z n a a' && chkA P Z n r r'
  | Z, n + 1, a :: r, .v i r' => isNm Z a i && chkA P Z n r r'
  | _, _, _, _ => false
end
variable {C : RC} {S S' : Addr → Prop} {H H' : Hp} {X : Cx} {W : WX} {M : Fns} {σ : St}

/-! ### expressions, one by one -/
theorem pe_imp {e : Expr} {t t' : TE} (h : PE X e t) (k : ∀ σ H Q, t' σ H Q → t σ H Q) : PE X e t' := ⟨fun pins s σ H Q I q => h.run pins s σ H Q I (k σ H Q q)⟩
theorem pt_imp {e : Expr} {t t' : TT} (h : PT X e t) (k : ∀ σ H Q, t' σ H Q → t σ H Q) : PT X e t' := ⟨fun pins s σ H Q I q => h.run pins s σ H Q I (k σ H Q q)⟩
theorem tD_op {o : Op} {es : Es} {Q : VK} (h : tD C W M (.op o es) σ H Q) : tL C W M es σ H fun vs H' => rOp C o vs H' Q := by
  obtain ⟨S, g, F, G, h⟩ := h
  exact op_out G h
theorem td_var {i : Nat} {Q : VK} (h : tD C W M (.var i) σ H Q) : tVar i σ H Q := by
  obtain ⟨S, g, F, G, h⟩ := h
  unfold ev at h
  cases e : g.getD i none with
  | none => rw [e] at h; exact h.elim
  | some t =>
    rw [e] at h
    obtain ⟨Fr, Fi, hs, G1, n1, d1, hm⟩ := G.take (getD_lt e)
    rw [e] at hs
    obtain ⟨x, ex, r⟩ := hs
    have own := Rp.own t x Fi r
    refine ⟨x, slot_some (by rw [G.len]; exact getD_lt e) ex, ?_⟩
    have G2 := G1.grow d1 fun b hb => (own b hb).2
    have r2 : Rp C (SF S Fi) H t.fz x [] := Rp.froz (fun a z => .inl z) t x Fi (fun b hb => .inr hb) r
    obtain ⟨F3, G3, c1, c2⟩ := G2.put (i := i) (o := some t.fz) (y := σ.getD i none) (by rw [List.length_set]; exact getD_lt e) ⟨x, ex, r2⟩ List.nodup_nil (fun b hb => nomatch hb)
    rw [List.set_set, set_getD] at G3
    have sub : ∀ b ∈ F3, b ∈ F := fun b hb => (c1 b hb).elim (fun z => (hm b).mpr (.inl z)) fun z => nomatch z
    exact h x H _ F3 [] (Tr.froze (fun b hb => by rw [List.append_nil] at hb; exact sub b hb) fun b hb => (hm b).mpr (.inr hb)) G3 r2 List.nodup_nil (fun b hb => nomatch hb)
theorem td_mv {i : Nat} {Q : VK} (h : tD C W M (.mv i) σ H Q) : tVar i σ H Q := by
  obtain ⟨S, g, F, G, h⟩ := h
  unfold ev at h
  cases e : g.getD i none with
  | none => rw [e] at h; exact h.elim
  | some t =>
    rw [e] at h
    obtain ⟨Fr, Fi, hs, G1, n1, d1, hm⟩ := G.take (getD_lt e)
    rw [e] at hs
    obtain ⟨x, ex, r⟩ := hs
    refine ⟨x, slot_some (by rw [G.len]; exact getD_lt e) ex, ?_⟩
    exact h x H S Fr Fi (Tr.refl.sub' fun b hb => (hm b).mpr ((List.mem_append.mp hb))) G1 r n1 d1
theorem getN : ∀ {xs : List T} {vs : List V} {F : List Addr} {i : Nat} {t : T}, RpL C S H xs vs F → xs[i]? = some t → ∃ v A F1 B, vs[i]? = some v ∧ F = A ++ (F1 ++ B) ∧ Rp C S H t v F1
  | [], vs, F, i, t, _, e => by simp at e
  | u :: us, vs, F, 0, t, ⟨v, ws, F1, F2, ev, eF, r1, r2⟩, e => by
    cases e
    exact ⟨v, [], F1, F2, by rw [ev]; rfl, eF, r1⟩
  | u :: us, vs, F, i + 1, t, ⟨v, ws, F1, F2, ev, eF, r1, r2⟩, e => by
    obtain ⟨v', A, F', B, h1, h2, h3⟩ := getN r2 (i := i) (by simpa using e)
    exact ⟨v', F1 ++ A, F', B, by rw [ev]; simpa using h1, by rw [eF, h2, List.append_assoc], h3⟩
/-- a child is taken out; the rest of its list is forgotten -/
theorem td_mvi {v i : Nat} {Q : VK} {K : PySem.W.Frag} (h : tD C W M (.mvi v i) σ H Q) : tVar v σ H fun x H1 => rIxL K x (.int (i : Int)) H1 Q := by
  obtain ⟨S, g, F, G, h⟩ := h
  unfold ev at h
  cases e : g.getD v none with
  | none => rw [e] at h; exact h.elim
  | some u =>
    rw [e] at h
    cases u <;> first | exact h.elim | skip
    rename_i o xs
    cases o with
    | false => exact h.elim
    | true =>
      simp only at h
      cases e2 : xs[i]? with
      | none => rw [e2] at h; exact h.elim
      | some t =>
        rw [e2] at h
        obtain ⟨Fr, Fi, hs, G1, n1, d1, hm⟩ := G.take (getD_lt e)
        rw [e] at hs
        obtain ⟨x, ex, a, vs, F', ex2, ha, rl, _, eF⟩ := hs
        obtain ⟨y, A, F1, B, hy, eF', ry⟩ := getN rl e2
        subst ex2
        refine ⟨.ref a, slot_some (by rw [G.len]; exact getD_lt e) ex, a, vs, i, y, rfl, rfl, .of ha, ?_, ?_⟩
        · have hl := (List.getElem?_eq_some_iff.mp hy).1
          unfold atI ixN
          rw [if_pos (by omega), if_pos (by omega)]
          simpa using hy
        · have sub : ∀ b ∈ F1, b ∈ Fi := fun b hb => by
            rw [eF, eF']
            exact List.mem_cons_of_mem _ (List.mem_append_right _ (List.mem_append_left _ hb))
          have nd1 : F1.Nodup := by
            have n2 : (A ++ (F1 ++ B)).Nodup := by
              rw [eF, eF'] at n1
              exact (List.nodup_cons.mp n1).2
            exact (List.nodup_append.mp (List.nodup_append.mp n2).2.1).1
          exact h y H S Fr F1 (Tr.refl.sub' fun b hb => (hm b).mpr ((List.mem_append.mp hb).imp id (sub b))) G1 ry nd1 fun b hb => d1 b (sub b hb)
theorem td_k {t : T} {v : V} {Q : VK} (hr : ∀ S, Rp C S H t v []) (h : tD C W M (.k t) σ H Q) : tC v σ H Q := by
  obtain ⟨S, g, F, G, h⟩ := h
  exact h v H S F [] (Tr.refl.sub' fun b hb => by rw [List.append_nil] at hb; exact hb) G (hr S) List.nodup_nil (fun b hb => nomatch hb)
theorem ods_vals {ods : List Od} {ts : List T} (h : tmps ods = some ts) {vs : List V} {F : List Addr} (r : OdRel C S H σ ods vs F) : RpL C S H ts vs F := by
  induction ods generalizing ts vs F with
  | nil => cases h; exact r
  | cons o os ih =>
    cases o with
    | v i => cases h
    | x t =>
      obtain ⟨x, ws, F1, F2, e, eF, r1, r2⟩ := r
      cases e2 : tmps os with
      | none => rw [tmps, e2] at h; cases h
      | some us =>
        rw [tmps, e2] at h
        cases h
        exact ⟨x, ws, F1, F2, e, eF, r1, ih e2 r2⟩
theorem td_lst {es : Es} {Q : VK} (h : tD C W M (.lst es) σ H Q) : tLst (tL C W M es) σ H Q := by
  obtain ⟨S, g, F, G, h⟩ := h
  refine opnds es S H F g _ G ?_
  unfold ev at h
  cases e : evO M es g with
  | bad => rw [e] at h; exact h
  | exc c fs g1 => rw [e] at h; exact h
  | ok ods g1 =>
    rw [e] at h
    have h' : outE C W σ S H F (match tmps ods with | some ts => if ts.length ≤ sizeLine then Rs.ok (.lst true ts) g1 else Rs.bad | none => Rs.bad) Q := h
    intro vs H1 S1 F1 Fa t1 G1 od na da
    cases e1 : tmps ods with
    | none => rw [e1] at h'; exact h'.elim
    | some ts =>
      rw [e1] at h'
      simp only at h'
      have rl := ods_vals e1 od
      by_cases hz : ts.length ≤ sizeLine
      · rw [if_pos hz] at h'
        refine ⟨by rw [rl.length]; exact hz, fun p hp => ?_⟩
        have k : Same H1 (upd H1 p (.lst vs)) := fun b x e => by rw [upd_ne (ne_of_none e hp)]; exact e
        have own := RpL.own ts vs Fa rl
        have npa : p ∉ Fa := fun z => by
          obtain ⟨_, ys, e⟩ := own p z
          rw [hp] at e; cases e
        have npS : ¬ S1 p := fun z => by
          obtain ⟨ys, e⟩ := G1.sdom p z
          rw [hp] at e; cases e
        refine h' (.ref p) _ S1 F1 (p :: Fa) ?_ (G1.same k) ⟨p, vs, Fa, rfl, upd_same, RpL.stay (fun _ z => z) ts vs Fa (fun b o e _ => k b o e) (fun b hb => (own b hb).1) rl, npS, rfl⟩ (List.nodup_cons.mpr ⟨npa, na⟩) fun b hb hf => ?_
        · refine (t1.trans (Tr.alloc (F1 := [p]) k fun b hb => by rw [List.mem_singleton.mp hb]; exact hp)).sub' fun b hb => ?_
          simp only [List.mem_append, List.mem_cons, List.not_mem_nil, or_false] at hb ⊢
          rcases hb with hb | hb | hb
          · exact .inl (.inl hb)
          · exact .inr hb
          · exact .inl (.inr hb)
        · rcases List.mem_cons.mp hb with e | hb
          · subst e
            obtain ⟨_, ys, e⟩ := G1.own b hf
            rw [hp] at e; cases e
          · exact da b hb hf
      · rw [if_neg hz] at h'; exact h'.elim
theorem td_tup {es : Es} {Q : VK} (h : tD C W M (.tup es) σ H Q) : tTup (tL C W M es) σ H Q := by
  obtain ⟨S, g, F, G, h⟩ := h
  refine opnds es S H F g _ G ?_
  unfold ev at h
  cases e : evO M es g with
  | bad => rw [e] at h; exact h
  | exc c fs g1 => rw [e] at h; exact h
  | ok ods g1 =>
    rw [e] at h
    have h' : outE C W σ S H F (match tmps ods with | some ts => if ts.length ≤ sizeLine then Rs.ok (.tup ts) g1 else Rs.bad | none => Rs.bad) Q := h
    intro vs H1 S1 F1 Fa t1 G1 od na da
    cases e1 : tmps ods with
    | none => rw [e1] at h'; exact h'.elim
    | some ts =>
      rw [e1] at h'
      simp only at h'
      have rl := ods_vals e1 od
      by_cases hz : ts.length ≤ sizeLine
      · rw [if_pos hz] at h'
        refine ⟨by rw [rl.length]; exact hz, fun p hp => ?_⟩
        have k : Same H1 (upd H1 p (.tup vs)) := fun b x e => by rw [upd_ne (ne_of_none e hp)]; exact e
        have own := RpL.own ts vs Fa rl
        refine h' (.ref p) _ S1 F1 Fa ?_ (G1.same k) ⟨p, vs, rfl, upd_same, RpL.stay (fun _ z => z) ts vs Fa (fun b o e _ => k b o e) (fun b hb => (own b hb).1) rl⟩ na da
        refine (t1.trans (Tr.alloc (F1 := []) k fun b hb => nomatch hb)).sub' fun b hb => ?_
        rw [List.append_nil]
        exact hb
      · rw [if_neg hz] at h'; exact h'.elim
theorem rp_bl {b : Bool} {x : V} {F : List Addr} (h : Rp C S H (.bl b) x F) : x = .bl b ∧ F = [] := h
theorem td_slv {v : Nat} {lo hi : E} {Q : VK} (h : tD C W M (.slv v lo hi) σ H Q) : tVar v σ H fun x H1 => tD C W M lo σ H1 fun y H2 => ∃ i, y = .int i ∧ tD C W M hi σ H2 fun z H3 => ∃ j, z = .int j ∧ (rSlL X.K x (some i) (some j) H3 Q ∨ rSlS x (some i) (some j) H3 Q) := by
  obtain ⟨S, g, F, G, h⟩ := h
  unfold ev at h
  cases e : g.getD v none with
  | none => rw [e] at h; exact h.elim
  | some t =>
    rw [e] at h
    obtain ⟨x, Fi, hx, _⟩ := G.get e
    refine ⟨x, hx, S, g, F, G, ?_⟩
    refine outE.seq h fun a g1 ea y H1 S1 F1 Fa t1 G1 ry n1 d1 q => ?_
    cases a <;> first | exact q.elim | skip
    rename_i i
    refine ⟨i, ry.1, S1, g1, F1, G1, ?_⟩
    refine outE.seq q fun b g2 eb z H2 S2 F2 Fb t2 G2 rz n2 d2 q => ?_
    cases b <;> first | exact q.elim | skip
    rename_i j
    refine ⟨j, rz.1, ?_⟩
    have r := op_end (M := M) (ods := [.v v, .x (.int i), .x (.int j)]) (vs := [x, .int i, .int j]) (Fa := []) (Tr.refl.sub' fun b hb => by rw [List.append_nil] at hb; exact hb) G2 ⟨x, [.int i, .int j], rfl, hx, .int i, [.int j], [], [], rfl, rfl, ⟨rfl, rfl⟩, .int j, [], [], [], rfl, rfl, ⟨rfl, rfl⟩, rfl, rfl⟩ List.nodup_nil (fun b hb => nomatch hb) q
    obtain ⟨i', j', e1, e2, r⟩ := ok_slice2 (X := X) r
    cases e1
    cases e2
    exact r
theorem lstO_of {o : Option T} {xs : List T} (h : lstO o = some xs) : ∃ b, o = some (.lst b xs) := by
  unfold lstO at h
  split at h
  · cases h; exact ⟨_, rfl⟩
  · cases h
theorem intO_of {o : Option T} {a : Int} (h : intO o = some a) : o = some (.int a) := by
  unfold intO at h
  split at h
  · cases h; rfl
  · cases h
theorem atI_relF {xs : List T} {vs : List V} {F : List Addr} {i : Int} {t : T} (k : RpL C S H xs vs F) (h : atI xs i = some t) : ∃ v F1, atI vs i = some v ∧ Rp C S H t v F1 := by
  unfold atI at h ⊢
  rw [k.length]
  cases e : ixN xs.length i with
  | none => rw [e] at h; cases h
  | some j =>
    rw [e] at h
    obtain ⟨v, F1, e1, r, _⟩ := k.get h
    exact ⟨v, F1, e1, r⟩
theorem atI_natV {vs : List V} {k : Nat} {v : V} (h : vs[k]? = some v) : atI vs (k : Int) = some v := by
  have hl := (List.getElem?_eq_some_iff.mp h).1
  unfold atI ixN
  rw [if_pos (by omega), if_pos (by omega)]
  exact h
theorem td_pk2 {K : PySem.W.Frag} {v k c : Nat} {Q : VK} (h : tD C W M (.pk2 v k c) σ H Q) : tOp (rIxL K) (tOp (rIxL K) (tVar v) (tC (.int (k : Int)))) (tOp (rIxL K) (tVar v) (tC (.int (c : Int)))) σ H Q := by
  obtain ⟨S, g, F, G, h⟩ := h
  unfold ev at h
  cases e : pk2L (g.getD v none) k c with
  | none => rw [e] at h; exact h.elim
  | some a =>
    rw [e] at h
    unfold pk2L at e
    obtain ⟨xs, e1, e⟩ := Option.bind_eq_some_iff.mp e
    obtain ⟨ys, e2, e⟩ := Option.bind_eq_some_iff.mp e
    obtain ⟨i, e3, e4⟩ := Option.bind_eq_some_iff.mp e
    obtain ⟨b, e1⟩ := lstO_of e1
    obtain ⟨b2, e2⟩ := lstO_of e2
    have e3 := intO_of e3
    have e4 := intO_of e4
    obtain ⟨x, Fi, hx, rx, _⟩ := G.get e1
    obtain ⟨p, vs, F', ex, hp, rl, _⟩ := rx
    obtain ⟨y, Fy, hy, ry, _⟩ := rl.get e2
    obtain ⟨z, Fz, hz, rz, _⟩ := rl.get e3
    obtain ⟨q, ws, F2, ey, hq, rl2, _⟩ := ry
    obtain ⟨w, Fw, hw, rw'⟩ := atI_relF rl2 e4
    subst ex ey
    have ez : z = .int i := rz.1
    have ew : w = .int a := rw'.1
    subst ez ew
    refine ⟨.ref p, hx, p, vs, k, .ref q, rfl, rfl, .of hp, atI_natV hy, .ref p, hx, p, vs, c, .int i, rfl, rfl, .of hp, atI_natV hz, q, ws, i, .int a, rfl, rfl, .of hq, hw, ?_⟩
    exact h (.int a) H S F [] (Tr.refl.sub' fun b hb => by rw [List.append_nil] at hb; exact hb) G ⟨rfl, rfl⟩ List.nodup_nil (fun b hb => nomatch hb)
theorem td_pkl {K : PySem.W.Frag} {v k : Nat} {Q : VK} (h : tD C W M (.pkl v k) σ H Q) : tVar v σ H fun x H1 => rIxL K x (.int (k : Int)) H1 fun y H2 => ∃ p ys, y = .ref p ∧ SqL K H2 p ys ∧ Q (.int ys.length) H2 := by
  obtain ⟨S, g, F, G, h⟩ := h
  unfold ev at h
  cases e : pklL (g.getD v none) k with
  | none => rw [e] at h; exact h.elim
  | some a =>
    rw [e] at h
    unfold pklL at e
    obtain ⟨xs, e1, e⟩ := Option.bind_eq_some_iff.mp e
    obtain ⟨ys, e2, e⟩ := Option.map_eq_some_iff.mp e
    obtain ⟨b, e1⟩ := lstO_of e1
    obtain ⟨b2, e2⟩ := lstO_of e2
    obtain ⟨x, Fi, hx, rx, _⟩ := G.get e1
    obtain ⟨p, vs, F', ex, hp, rl, _⟩ := rx
    obtain ⟨y, Fy, hy, ry, _⟩ := rl.get e2
    obtain ⟨q, ws, F2, ey, hq, rl2, _⟩ := ry
    subst ex ey
    have el := rl2.length
    refine ⟨.ref p, hx, p, vs, k, .ref q, rfl, rfl, .of hp, atI_natV hy, q, ws, rfl, .of hq, ?_⟩
    rw [← el] at e
    rw [el, ← el, e]
    exact h (.int a) H S F [] (Tr.refl.sub' fun b hb => by rw [List.append_nil] at hb; exact hb) G ⟨rfl, rfl⟩ List.nodup_nil (fun b hb => nomatch hb)
theorem td_pki {K : PySem.W.Frag} {v k : Nat} {Q : VK} (h : tD C W M (.pki v k) σ H Q) : tOp (rIxL K) (tVar v) (tC (.int (k : Int))) σ H Q := by
  obtain ⟨S, g, F, G, h⟩ := h
  unfold ev at h
  cases e : pkiL (g.getD v none) k with
  | none => rw [e] at h; exact h.elim
  | some a =>
    rw [e] at h
    unfold pkiL at e
    obtain ⟨xs, e1, e⟩ := Option.bind_eq_some_iff.mp e
    obtain ⟨b, e1⟩ := lstO_of e1
    have e3 := intO_of e
    obtain ⟨x, Fi, hx, rx, _⟩ := G.get e1
    obtain ⟨p, vs, F', ex, hp, rl, _⟩ := rx
    obtain ⟨z, Fz, hz, rz, _⟩ := rl.get e3
    subst ex
    have ez : z = .int a := rz.1
    subst ez
    refine ⟨.ref p, hx, p, vs, k, .int a, rfl, rfl, .of hp, atI_natV hz, ?_⟩
    exact h (.int a) H S F [] (Tr.refl.sub' fun b hb => by rw [List.append_nil] at hb; exact hb) G ⟨rfl, rfl⟩ List.nodup_nil (fun b hb => nomatch hb)
theorem td_mtB {o : Op} {v : Nat} {b : E} {Q : VK} (h : tD C W M (.mtB o v b) σ H Q) : tVar v σ H fun x H1 => tyV C.K "list" x H1 ∧ tD C W M b σ H1 fun y H2 => rOp C o [x, y] H2 Q := by
  obtain ⟨S, g, F, G, h⟩ := h
  unfold ev at h
  by_cases hl : isLst (g.getD v none) = true
  · rw [if_pos hl] at h
    cases e : g.getD v none with
    | none => rw [e] at hl; cases hl
    | some t =>
      rw [e] at hl
      cases t <;> first | (cases hl; done) | skip
      obtain ⟨x, Fi, hx, rx, _⟩ := G.get e
      obtain ⟨p, vs, F', ex, hp, _⟩ := rx
      subst ex
      refine ⟨.ref p, hx, .inl ⟨rfl, vs, .of hp⟩, S, g, F, G, ?_⟩
      cases e1 : ev M b g with
      | bad => rw [e1] at h; exact h
      | exc c fs g1 => rw [e1] at h; exact h
      | ok a g1 =>
        rw [e1] at h
        exact fun y H1 S1 F1 Fa t1 G1 ry n1 d1 => op_end (M := M) (ods := [.v v, .x a]) (vs := [.ref p, y]) (Fa := Fa) t1 G1 ⟨.ref p, [y], rfl, hx, y, [], Fa, [], rfl, by rw [List.append_nil], ry, rfl, rfl⟩ n1 d1 h
  · rw [if_neg hl] at h; exact h.elim
theorem td_and {a b : E} {Q : VK} (h : tD C W M (.and a b) σ H Q) : tAndV (tD C W M a) (tD C W M b) σ H Q := by
  obtain ⟨S, g, F, G, h⟩ := h
  refine ⟨S, g, F, G, ?_⟩
  unfold ev at h
  refine h.seq fun t g1 e x H1 S1 F1 Fa t1 G1 r n d q => ?_
  cases t <;> first | exact q.elim | skip
  rename_i b
  cases b with
  | true => exact ⟨true, r.1, by rw [if_pos rfl]; exact ⟨S1, g1, F1, G1, q⟩⟩
  | false =>
    refine ⟨false, r.1, by rw [if_neg Bool.false_ne_true]; exact q (.bl false) H1 S1 F1 [] (Tr.refl.sub' fun b hb => by rw [List.append_nil] at hb; exact hb) G1 ⟨rfl, rfl⟩ List.nodup_nil (fun b hb => nomatch hb)⟩
theorem td_or {a b : E} {Q : VK} (h : tD C W M (.or a b) σ H Q) : tOrV (tD C W M a) (tD C W M b) σ H Q := by
  obtain ⟨S, g, F, G, h⟩ := h
  refine ⟨S, g, F, G, ?_⟩
  unfold ev at h
  refine h.seq fun t g1 e x H1 S1 F1 Fa t1 G1 r n d q => ?_
  cases t <;> first | exact q.elim | skip
  rename_i b
  cases b with
  | true =>
    refine ⟨true, r.1, by rw [if_pos rfl]; exact q (.bl true) H1 S1 F1 [] (Tr.refl.sub' fun b hb => by rw [List.append_nil] at hb; exact hb) G1 ⟨rfl, rfl⟩ List.nodup_nil (fun b hb => nomatch hb)⟩
  | false => exact ⟨false, r.1, by rw [if_neg Bool.false_ne_true]; exact ⟨S1, g1, F1, G1, q⟩⟩
theorem td_not {a : E} {Q : VK} (h : tD C W M (.not a) σ H Q) : tNotV (tD C W M a) σ H Q := by
  obtain ⟨S, g, F, G, h⟩ := h
  refine ⟨S, g, F, G, ?_⟩
  unfold ev at h
  refine h.seq fun t g1 e x H1 S1 F1 Fa t1 G1 r n d q => ?_
  cases t <;> first | exact q.elim | skip
  rename_i b
  exact ⟨b, r.1, q (.bl (!b)) H1 S1 F1 [] (Tr.refl.sub' fun b hb => by rw [List.append_nil] at hb; exact hb) G1 ⟨rfl, rfl⟩ List.nodup_nil (fun b hb => nomatch hb)⟩
theorem td_ite {c a b : E} {Q : VK} (h : tD C W M (.ite c a b) σ H Q) : tIf (tB (tD C W M c)) (tD C W M a) (tD C W M b) σ H Q := by
  obtain ⟨S, g, F, G, h⟩ := h
  refine ⟨S, g, F, G, ?_⟩
  unfold ev at h
  refine h.seq fun t g1 e x H1 S1 F1 Fa t1 G1 r n d q => ?_
  cases t <;> first | exact q.elim | skip
  rename_i b
  cases b with
  | true => exact ⟨true, r.1, iteT (show tD C W M a σ H1 Q from ⟨S1, g1, F1, G1, q⟩)⟩
  | false => exact ⟨false, r.1, iteF (show tD C W M b σ H1 Q from ⟨S1, g1, F1, G1, q⟩)⟩
end Kv

/-! Kv 7: what a def promises; calls. -/
namespace Kv
open PySem L2
variable {C : RC} {S S' : Addr → Prop} {H H' : Hp} {X : Cx} {W : WX} {M : Fns} {σ : St}

/-- an int or a text -/
def isSc (t : T) : Prop := (∃ i, t = .int i) ∨ ∃ z, t = .str z
theorem isSc.rp {t : T} {x : V} {F : List Addr} (h : isSc t) (r : Rp C S H t x F) : F = [] ∧ t.fk = t ∧ ∀ S' H', Rp C S' H' t x [] := by
  rcases h with ⟨i, rfl⟩ | ⟨z, rfl⟩
  · exact ⟨r.2, rfl, fun S' H' => ⟨r.1, rfl⟩⟩
  · exact ⟨r.2, rfl, fun S' H' => ⟨r.1, rfl⟩⟩
theorem ord_of {o : Op} {x y t : T} (ho : ordO o = true) (h : opS o [x, y] = some t) : isSc x ∧ isSc y := by
  have k : ∀ {f : Int → Int → Bool} {g : Str → Str → Bool}, cmp2 f g [x, y] = some t → isSc x ∧ isSc y := fun {f g} q => by
    rcases cmp2_of q with ⟨a, b, e, _⟩ | ⟨a, b, e, _⟩
    · cases e
      exact ⟨.inl ⟨a, rfl⟩, .inl ⟨b, rfl⟩⟩
    · cases e
      exact ⟨.inr ⟨a, rfl⟩, .inr ⟨b, rfl⟩⟩
  cases o <;> first
    | (cases ho; done)
    | exact k h
theorem td_chain {o p : Op} {a b c : E} {Q : VK} (h1 : ordO o = true) (h2 : ordO p = true) (h : tD C W M (.chain o p a b c) σ H Q) : tChain (r2 C o) (r2 C p) (tD C W M a) (tD C W M b) (tD C W M c) σ H Q := by
  obtain ⟨S, g, F, G, h⟩ := h
  refine ⟨S, g, F, G, ?_⟩
  unfold ev at h
  refine h.seq fun x g1 e1 vx H1 S1 F1 Fa t1 G1 rx n1 d1 q => ⟨S1, g1, F1, G1, ?_⟩
  refine q.seq fun y g2 e2 vy H2 S2 F2 Fb t2 G2 ry n2 d2 q => ?_
  have nil : ∀ {F : List Addr}, Tr S2 H2 F S2 H2 (F ++ []) := fun {F} => Tr.refl.sub' fun b hb => by rw [List.append_nil] at hb; exact hb
  cases e : opS o [x, y] with
  | none => simp only [e] at q; exact q.elim
  | some t =>
    obtain ⟨sx, sy⟩ := ord_of h1 e
    obtain ⟨_, kx, ex⟩ := sx.rp rx
    obtain ⟨_, ky, ey⟩ := sy.rp ry
    have rb : RpB C S2 H2 [x, y] [vx, vy] := ⟨vx, [vy], rfl, ⟨[], ex S2 H2⟩, vy, [], rfl, ⟨[], ey S2 H2⟩, rfl⟩
    refine ⟨S2, _, t, rb, fun u hu => by simp at hu; rcases hu with h | h <;> rw [h] <;> assumption, G2.sdom, e, fun z H3 F3 k fr nd rz => ?_⟩
    simp only [e] at q
    cases t <;> first | exact q.elim | skip
    rename_i bb
    obtain ⟨ez, eF⟩ := rz
    subst eF
    have G3 := G2.same k
    have t3 : Tr S2 H2 F2 S2 H3 F2 := (Tr.alloc (F1 := []) k fun b hb => nomatch hb).sub' fun b hb => by rw [List.append_nil]; exact hb
    have q3 := fun (b : Bool) => bb = b
    cases bb with
    | false =>
      refine ⟨false, ez, iteF ?_⟩
      exact q (.bl false) H3 S2 F2 [] ((Tr.alloc (F1 := []) k fun b hb => nomatch hb)) G3 ⟨rfl, rfl⟩ List.nodup_nil (fun b hb => nomatch hb)
    | true =>
      refine ⟨true, ez, iteT ⟨S2, g2, F2, G3, ?_⟩⟩
      refine (outE.tr q t3).seq fun z g4 e4 vz H4 S4 F4 Fz t4 G4 rz4 n4 d4 q => ?_
      cases e5 : opS p [y, z] with
      | none => simp only [e5] at q; exact q.elim
      | some t =>
        obtain ⟨_, sz⟩ := ord_of h2 e5
        obtain ⟨_, kz, ez4⟩ := sz.rp rz4
        have rb4 : RpB C S4 H4 [y, z] [vy, vz] := ⟨vy, [vz], rfl, ⟨[], ey S4 H4⟩, vz, [], rfl, ⟨[], ez4 S4 H4⟩, rfl⟩
        refine ⟨S4, _, t, rb4, fun u hu => by simp at hu; rcases hu with h | h <;> rw [h] <;> assumption, G4.sdom, e5, fun w H5 F5 k5 fr5 nd5 rw5 => ?_⟩
        simp only [e5] at q
        refine q w H5 S4 F4 F5 (Tr.alloc k5 fr5) (G4.same k5) rw5 nd5 fun b hb hf => ?_
        obtain ⟨_, ys, e6⟩ := G4.own b hf
        rw [fr5 b hb] at e6
        cases e6

/-! ### what a def promises -/
/-- the arguments: what is not changed in place is frozen -/
def FrozenAt : List Bool → List T → Prop
  | b :: bs, t :: ts => (b = false → t.fz = t) ∧ FrozenAt bs ts
  | [], [] => True
  | _, _ => False
def SDom (S : Addr → Prop) (H : Hp) : Prop := ∀ a, S a → ∃ ys, H a = some (.lst ys)
def spF (C : RC) (io : List Bool) (m : List T → Fr) : Sp := fun vs H Q E =>
  ∃ S ts F, RpL C S H ts vs F ∧ FrozenAt io ts ∧ F.Nodup ∧ SDom S H ∧ match m ts with
    | .ok t ios => ∀ x H' S' F' F1, Tr S H F S' H' (F' ++ F1) → SDom S' H' → RpG C S' H' ios (vs.map some) F' → F'.Nodup → Rp C S' H' t x F1 → F1.Nodup → Dj F1 F' → Q x H'
    | .exc c fs ios => ∀ cls d H' S' F', Tr S H F S' H' F' → SDom S' H' → RpG C S' H' ios (vs.map some) F' → F'.Nodup → ExRel C c fs cls d S' H' → E cls d H'
    | .bad => False
theorem FrozenAt.len : ∀ {io : List Bool} {ts : List T}, FrozenAt io ts → ts.length = io.length
  | [], [], _ => rfl
  | b :: bs, t :: ts, h => by rw [List.length_cons, List.length_cons, FrozenAt.len h.2]
  | [], _ :: _, h => h.elim
  | _ :: _, [], h => h.elim
theorem spF_len {io : List Bool} {m : List T → Fr} {vs : List V} {Q : VK} {E : XK} (h : spF C io m vs H Q E) : vs.length = io.length := by
  obtain ⟨S, ts, F, r, fz, _⟩ := h
  rw [r.length, fz.len]
theorem fz_frozen : ∀ {io : List Bool} (ts : List T), ts.length = io.length → FrozenAt io (T.fzL ts)
  | [], [], _ => trivial
  | b :: bs, t :: ts, h => ⟨fun _ => T.fz_fz t, fz_frozen ts (by simpa using h)⟩
  | [], _ :: _, h => by simp at h
  | _ :: _, [], h => by simp at h
/-- the operands of a call that changes nothing -/
theorem od_froz {g : Env} {F : List Addr} (G : Good C S H g σ F) {S2 : Addr → Prop} (hS : ∀ a, S a → S2 a) (hF : ∀ b ∈ F, S2 b) : ∀ (os : List Od) (vs : List V) (F1 : List Addr) (ts : List T), OdRel C S H σ os vs F1 → (∀ b ∈ F1, S2 b) → getL g os = some ts → RpL C S2 H (T.fzL ts) vs []
  | [], vs, F1, ts, ⟨h1, h2⟩, _, hg => by
    cases hg
    exact ⟨h1, rfl⟩
  | .v i :: os, vs, F1, ts, ⟨x, ws, e, hx, h⟩, h1, hg => by
    unfold getL at hg
    simp only [Od.get] at hg
    cases e1 : g.getD i none with
    | none => rw [e1] at hg; cases hg
    | some t =>
      cases e2 : getL g os with
      | none => rw [e1, e2] at hg; cases hg
      | some us =>
        rw [e1, e2] at hg
        cases hg
        obtain ⟨y, Fi, hy, r, _, hi⟩ := G.get e1
        rw [hx] at hy
        cases hy
        exact ⟨x, ws, [], [], e, rfl, Rp.froz hS t x Fi (fun b hb => hF b (hi b hb)) r, od_froz G hS hF os ws F1 us h h1 e2⟩
  | .x t :: os, vs, F1, ts, ⟨x, ws, Fa, Fb, e, eF, r, h⟩, h1, hg => by
    subst eF
    unfold getL at hg
    simp only [Od.get] at hg
    cases e2 : getL g os with
    | none => rw [e2] at hg; cases hg
    | some us =>
      rw [e2] at hg
      cases hg
      exact ⟨x, ws, [], [], e, rfl, Rp.froz hS t x Fa (fun b hb => h1 b (List.mem_append_left _ hb)) r, od_froz G hS hF os ws Fb us h (fun b hb => h1 b (List.mem_append_right _ hb)) e2⟩
theorem getL_len {g : Env} : ∀ {os : List Od} {ts : List T}, getL g os = some ts → ts.length = os.length
  | [], ts, h => by cases h; rfl
  | o :: os, ts, h => by
    unfold getL at h
    split at h
    · rename_i t us e1 e2
      cases h
      rw [List.length_cons, List.length_cons, getL_len e2]
    · cases h
theorem OdRel.len : ∀ {os : List Od} {vs : List V} {F : List Addr}, OdRel C S H σ os vs F → vs.length = os.length
  | [], vs, F, h => by rw [h.1] <;> rfl
  | .v i :: os, vs, F, ⟨x, ws, e, _, h⟩ => by rw [e, List.length_cons, List.length_cons, OdRel.len h]
  | .x t :: os, vs, F, ⟨x, ws, _, _, e, _, _, h⟩ => by rw [e, List.length_cons, List.length_cons, OdRel.len h]
theorem evO_len : ∀ (es : Es) (g g1 : Env) (ods : List Od), evO M es g = .ok ods g1 → ods.length = es.len
  | .nil, g, g1, ods, e => by unfold evO at e; cases e; rfl
  | .e a r, g, g1, ods, e => by
    unfold evO at e
    cases e1 : ev M a g with
    | ok t g2 =>
      rw [e1] at e
      have e' : ((evO M r g2).bind fun ods g => Rs.ok (Od.x t :: ods) g) = .ok ods g1 := e
      cases e2 : evO M r g2 with
      | ok os g3 =>
        rw [e2] at e'
        have e3 : Rs.ok (Od.x t :: os) g3 = .ok ods g1 := e'
        cases e3
        rw [List.length_cons, evO_len r _ _ _ e2] <;> rfl
      | exc _ _ _ => rw [e2] at e'; cases e'
      | bad => rw [e2] at e'; cases e'
    | exc _ _ _ => rw [e1] at e; cases e
    | bad => rw [e1] at e; cases e
  | .v i r, g, g1, ods, e => by
    unfold evO at e
    split at e
    · cases e2 : evO M r g with
      | ok os g3 =>
        rw [e2] at e
        have e3 : Rs.ok (Od.v i :: os) g3 = .ok ods g1 := e
        cases e3
        rw [List.length_cons, evO_len r _ _ _ e2] <;> rfl
      | exc _ _ _ => rw [e2] at e; cases e
      | bad => rw [e2] at e; cases e
    · cases e
/-- names where parameters are changed in place -/
def odIo : List Od → List Bool → Bool
  | [], [] => true
  | .x _ :: r, b :: bs => !b && odIo r bs
  | .v _ :: r, b :: bs => b && odIo r bs
  | _, _ => false
theorem evO_io : ∀ (es : Es) (g g1 : Env) (ods : List Od) (io : List Bool), evO M es g = .ok ods g1 → es.ioOk io = true → odIo ods io = true
  | .nil, g, g1, ods, io, e, h => by
    unfold evO at e; cases e
    cases io with
    | nil => rfl
    | cons _ _ => cases h
  | .e a r, g, g1, ods, io, e, h => by
    cases io with
    | nil => cases h
    | cons b bs =>
      have h' : b = false ∧ r.ioOk bs = true := by simpa [Es.ioOk] using h
      unfold evO at e
      cases e1 : ev M a g with
      | ok t g2 =>
        rw [e1] at e
        have e' : ((evO M r g2).bind fun ods g => Rs.ok (Od.x t :: ods) g) = .ok ods g1 := e
        cases e2 : evO M r g2 with
        | ok os g3 =>
          rw [e2] at e'
          have e3 : Rs.ok (Od.x t :: os) g3 = .ok ods g1 := e'
          cases e3
          show (!b && odIo os bs) = true
          rw [h'.1, evO_io r _ _ _ bs e2 h'.2] <;> rfl
        | exc _ _ _ => rw [e2] at e'; cases e'
        | bad => rw [e2] at e'; cases e'
      | exc _ _ _ => rw [e1] at e; cases e
      | bad => rw [e1] at e; cases e
  | .v i r, g, g1, ods, io, e, h => by
    cases io with
    | nil => cases h
    | cons b bs =>
      have h' : b = true ∧ r.ioOk bs = true := by simpa [Es.ioOk] using h
      unfold evO at e
      split at e
      · cases e2 : evO M r g with
        | ok os g3 =>
          rw [e2] at e
          have e3 : Rs.ok (Od.v i :: os) g3 = .ok ods g1 := e
          cases e3
          show (b && odIo os bs) = true
          rw [h'.1, evO_io r _ _ _ bs e2 h'.2] <;> rfl
        | exc _ _ _ => rw [e2] at e; cases e
        | bad => rw [e2] at e; cases e
      · cases e
theorem Tr.same0 {F' : List Addr} (t : Tr S H [] S' H' F') : Same H H' := fun b o e => t.keep b o e (fun z => nomatch z)
/-- f(..), nothing changed in place, a deep answer -/
theorem td_callB {f : Nat} {es : Es} {io : List Bool} {Q : VK} (hl : es.len = io.length) (h : tD C W M (.callB f es) σ H Q) : tL C W M es σ H fun vs H' => spF C io (M f) vs H' Q fun cls d H2 => W cls d σ H2 := by
  obtain ⟨S, g, F, G, h⟩ := h
  refine opnds es S H F g _ G ?_
  unfold ev at h
  cases e : evO M es g with
  | bad => rw [e] at h; exact h
  | exc c fs g1 => rw [e] at h; exact h
  | ok ods g1 =>
    rw [e] at h
    have hol := evO_len es g g1 ods e
    have h' : outE C W σ S H F (match getL g1 ods with | none => Rs.bad | some ts => match M f (T.fzL ts) with | .ok t _ => if t.deep = true then Rs.ok t g1 else Rs.bad | .exc c fs _ => if T.deepL fs = true then Rs.exc c fs g1 else Rs.bad | .bad => Rs.bad) Q := h
    intro vs H1 S1 F1 Fa t1 G1 od na da
    cases e1 : getL g1 ods with
    | none => rw [e1] at h'; exact h'.elim
    | some ts =>
      rw [e1] at h'
      simp only at h'
      have ownA := OdRel.own ods vs Fa od
      have hSa : ∀ a, S1 a → SF S1 (F1 ++ Fa) a := fun a z => .inl z
      have rl := od_froz G1 hSa (fun b hb => .inr (List.mem_append_left _ hb)) ods vs Fa ts od (fun b hb => .inr (List.mem_append_right _ hb)) e1
      refine ⟨SF S1 (F1 ++ Fa), T.fzL ts, [], rl, fz_frozen ts (by rw [getL_len e1, hol, hl]), List.nodup_nil, fun a z => z.elim (G1.sdom a) fun z => (List.mem_append.mp z).elim (fun z => (G1.own a z).2) fun z => (ownA a z).2, ?_⟩
      have nS : ∀ {b : Addr}, H1 b = none → ¬ S1 b := fun {b} hb z => by
        obtain ⟨ys, e⟩ := G1.sdom b z
        rw [hb] at e; cases e
      have same {H2 : Hp} {S2 : Addr → Prop} {F2 : List Addr} (t2 : Tr (SF S1 (F1 ++ Fa)) H1 [] S2 H2 F2) : Same H1 H2 := t2.same0
      cases e2 : M f (T.fzL ts) with
      | bad => rw [e2] at h'; exact h'.elim
      | ok t ios =>
        rw [e2] at h'
        simp only at h'
        by_cases hd : t.deep = true
        · rw [if_pos hd] at h'
          intro x H2 S2 F2 Fx t2 sd rg ng rx nx dx
          have k := same t2
          have fr : ∀ b ∈ Fx, H1 b = none := fun b hb => (t2.newF b (List.mem_append_right _ hb)).elim (fun z => nomatch z) id
          refine h' x H2 S1 F1 Fx ((t1.sub' fun b hb => List.mem_append_left _ hb).trans (Tr.alloc k fr)) (G1.same k) (Rp.deep t x Fx hd (fun b hb => nS (fr b hb)) rx) nx fun b hb hf => ?_
          obtain ⟨_, ys, e⟩ := G1.own b hf
          rw [fr b hb] at e; cases e
        · rw [if_neg hd] at h'; exact h'.elim
      | exc c fs ios =>
        rw [e2] at h'
        simp only at h'
        by_cases hd : T.deepL fs = true
        · rw [if_pos hd] at h'
          intro cls d H2 S2 F2 t2 sd rg ng rx
          have k := same t2
          obtain ⟨ec, dd, ys, ws, ed, hdd, rw', hfl⟩ := rx
          refine h' cls d H2 S1 F1 ((t1.sub' fun b hb => List.mem_append_left _ hb).trans ((Tr.alloc (F1 := []) k fun b hb => nomatch hb).sub' fun b hb => by rw [List.append_nil]; exact hb)) (G1.same k) ⟨ec, dd, ys, ws, ed, hdd, RpL.deep fs ws [] hd (fun b hb => nomatch hb) rw', hfl⟩
        · rw [if_neg hd] at h'; exact h'.elim
theorem RpG.frozA {S S' : Addr → Prop} {H : Hp} (hS : ∀ a, S a → S' a) : ∀ (g : Env) (σ : List (Option V)) (F : List Addr), (∀ b ∈ F, S' b) → RpG C S H g σ F → RpG C S' H (fzG g) σ []
  | [], σ, F, _, h => ⟨h.1, rfl⟩
  | none :: g, σ, F, hF, ⟨y, τ, e, h⟩ => ⟨y, τ, e, RpG.frozA hS g τ F hF h⟩
  | some t :: g, σ, F, hF, ⟨x, τ, F1, F2, e, eF, h1, h2⟩ => by
    subst eF
    exact ⟨x, τ, [], [], e, rfl, Rp.froz hS t x F1 (fun b hb => hF b (List.mem_append_left _ hb)) h1, RpG.frozA hS g τ F2 (fun b hb => hF b (List.mem_append_right _ hb)) h2⟩
/-- f(..), all names frozen meanwhile -/
theorem td_callF {f : Nat} {es : Es} {io : List Bool} {Q : VK} (hl : es.len = io.length) (h : tD C W M (.callF f es) σ H Q) : tL C W M es σ H fun vs H' => spF C io (M f) vs H' Q fun cls d H2 => W cls d σ H2 := by
  obtain ⟨S, g, F, G, h⟩ := h
  have G' : Good C (SF S F) H (fzG g) σ [] := ⟨RpG.frozA (fun a z => .inl z) g σ F (fun b hb => .inr hb) G.rel, List.nodup_nil, fun a z => z.elim (G.sdom a) fun z => (G.own a z).2⟩
  refine opnds es (SF S F) H [] (fzG g) _ G' ?_
  unfold ev at h
  cases e : evO M es (fzG g) with
  | bad => rw [e] at h; exact h.elim
  | exc c fs g1 => rw [e] at h; exact h.elim
  | ok ods g1 =>
    rw [e] at h
    have hol := evO_len es (fzG g) g1 ods e
    have h' : outE C W σ S H F (match getL g1 ods with | none => Rs.bad | some ts => match M f (T.fzL ts) with | .ok t _ => if t.deep = true then Rs.ok t g else Rs.bad | .exc c fs _ => if T.deepL fs = true then Rs.exc c fs g else Rs.bad | .bad => Rs.bad) Q := h
    intro vs H1 S1 F1 Fa t1 G1 od na da
    cases e1 : getL g1 ods with
    | none => rw [e1] at h'; exact h'.elim
    | some ts =>
      rw [e1] at h'
      simp only at h'
      have ownA := OdRel.own ods vs Fa od
      have hSa : ∀ a, S1 a → SF S1 (F1 ++ Fa) a := fun a z => .inl z
      have rl := od_froz G1 hSa (fun b hb => .inr (List.mem_append_left _ hb)) ods vs Fa ts od (fun b hb => .inr (List.mem_append_right _ hb)) e1
      refine ⟨SF S1 (F1 ++ Fa), T.fzL ts, [], rl, fz_frozen ts (by rw [getL_len e1, hol, hl]), List.nodup_nil, fun a z => z.elim (G1.sdom a) fun z => (List.mem_append.mp z).elim (fun z => (G1.own a z).2) fun z => (ownA a z).2, ?_⟩
      have k0 : Same H H1 := t1.same0
      have nS : ∀ {b : Addr}, H b = none → ¬ S b := fun {b} hb z => by
        obtain ⟨ys, e⟩ := G.sdom b z
        rw [hb] at e; cases e
      have nH : ∀ {b : Addr}, H1 b = none → H b = none := fun {b} hb => by
        cases e : H b with
        | none => rfl
        | some o => rw [k0 b o e] at hb; cases hb
      have same {H2 : Hp} {S2 : Addr → Prop} {F2 : List Addr} (t2 : Tr (SF S1 (F1 ++ Fa)) H1 [] S2 H2 F2) : Same H H2 := fun b o e => t2.same0 b o (k0 b o e)
      cases e2 : M f (T.fzL ts) with
      | bad => rw [e2] at h'; exact h'.elim
      | ok t ios =>
        rw [e2] at h'
        simp only at h'
        by_cases hd : t.deep = true
        · rw [if_pos hd] at h'
          intro x H2 S2 F2 Fx t2 sd rg ng rx nx dx
          have k := same t2
          have fr : ∀ b ∈ Fx, H b = none := fun b hb => nH ((t2.newF b (List.mem_append_right _ hb)).elim (fun z => nomatch z) id)
          refine h' x H2 S F Fx (Tr.alloc k fr) (G.same k) (Rp.deep t x Fx hd (fun b hb => nS (fr b hb)) rx) nx fun b hb hf => ?_
          obtain ⟨_, ys, e⟩ := G.own b hf
          rw [fr b hb] at e; cases e
        · rw [if_neg hd] at h'; exact h'.elim
      | exc c fs ios =>
        rw [e2] at h'
        simp only at h'
        by_cases hd : T.deepL fs = true
        · rw [if_pos hd] at h'
          intro cls d H2 S2 F2 t2 sd rg ng rx
          have k := same t2
          obtain ⟨ec, dd, ys, ws, ed, hdd, rw', hfl⟩ := rx
          refine h' cls d H2 S F ((Tr.alloc (F1 := []) k fun b hb => nomatch hb).sub' fun b hb => by rw [List.append_nil]; exact hb) (G.same k) ⟨ec, dd, ys, ws, ed, hdd, RpL.deep fs ws [] hd (fun b hb => nomatch hb) rw', hfl⟩
        · rw [if_neg hd] at h'; exact h'.elim
theorem io_froz {g : Env} : ∀ {ods : List Od} {io : List Bool} {ts : List T}, odIo ods io = true → ioArgs g ods = some ts → FrozenAt io ts
  | [], [], ts, _, h => by cases h; trivial
  | .x t :: os, b :: bs, ts, h0, h => by
    have h' : b = false ∧ odIo os bs = true := by simpa [odIo] using h0
    cases e : ioArgs g os with
    | none => rw [ioArgs, e] at h; cases h
    | some us =>
      rw [ioArgs, e] at h
      cases h
      exact ⟨fun _ => T.fz_fz t, io_froz h'.2 e⟩
  | .v i :: os, b :: bs, ts, h0, h => by
    have h' : b = true ∧ odIo os bs = true := by simpa [odIo] using h0
    unfold ioArgs at h
    split at h
    · rename_i t us e1 e2
      cases h
      exact ⟨fun z => (by rw [h'.1] at z; cases z), io_froz h'.2 e2⟩
    · cases h
  | [], _ :: _, _, h, _ => by cases h
  | .x _ :: _, [], _, h, _ => by cases h
  | .v _ :: _, [], _, h, _ => by cases h
/-- the operands of an in-out call: the named ones are taken out of their slots -/
theorem io_take {g0 : Env} : ∀ (os : List Od) (g : Env) (F : List Addr) (vs : List V) (F1 : List Addr) (ts : List T), Good C S H g σ F → OdRel C S H σ os vs F1 → (vars os).Nodup → ioArgs g0 os = some ts → (∀ i ∈ vars os, g.getD i none = g0.getD i none) →
    ∃ Fr Fc, Good C S H (clrV g os) σ Fr ∧ Fc.Nodup ∧ Dj Fc Fr ∧ (∀ b ∈ Fr, b ∈ F) ∧ (∀ b ∈ Fc, b ∈ F) ∧ ∀ S2 : Addr → Prop, (∀ a, S a → S2 a) → (∀ b ∈ F1, S2 b) → (∀ b ∈ Fc, ¬ S2 b) → RpL C S2 H ts vs Fc
  | [], g, F, vs, F1, ts, G, ⟨h1, h2⟩, _, hg, _ => by
    cases hg
    exact ⟨F, [], G, List.nodup_nil, (fun b hb => nomatch hb), fun b hb => hb, (fun b hb => nomatch hb), fun S2 _ _ _ => ⟨h1, rfl⟩⟩
  | .x t :: os, g, F, vs, F1, ts, G, ⟨x, ws, Fa, Fb, e, eF, r, h⟩, nv, hg, hv => by
    subst eF
    cases e2 : ioArgs g0 os with
    | none => rw [ioArgs, e2] at hg; cases hg
    | some us =>
      rw [ioArgs, e2] at hg
      cases hg
      obtain ⟨Fr, Fc, G1, n1, d1, a1, a2, q⟩ := io_take os g F ws Fb us G h nv e2 hv
      exact ⟨Fr, Fc, G1, n1, d1, a1, a2, fun S2 s1 s2 s3 => ⟨x, ws, [], Fc, e, rfl, Rp.froz s1 t x Fa (fun b hb => s2 b (List.mem_append_left _ hb)) r, q S2 s1 (fun b hb => s2 b (List.mem_append_right _ hb)) s3⟩⟩
  | .v i :: os, g, F, vs, F1, ts, G, ⟨x, ws, e, hx, h⟩, nv, hg, hv => by
    unfold ioArgs at hg
    split at hg
    · rename_i t us e1 e2
      cases hg
      obtain ⟨n1, n2⟩ := List.nodup_cons.mp nv
      have eg : g.getD i none = some t := by rw [hv i List.mem_cons_self, e1]
      obtain ⟨Fr0, Fi, hs, G0, m1, m2, m3⟩ := G.take (getD_lt eg)
      rw [eg] at hs
      obtain ⟨y, ey, ry⟩ := hs
      have exy : x = y := by
        have z := slot_some (by rw [G.len]; exact getD_lt eg) ey
        rw [hx] at z
        exact Option.some.inj (Option.some.inj z)
      subst exy
      obtain ⟨Fr, Fc, G1, k1, d1, a1, a2, q⟩ := io_take os (g.set i none) Fr0 ws F1 us G0 h n2 e2 fun j hj => by
        rw [getD_set, if_neg (fun (z : i = j ∧ i < g.length) => n1 (by rw [z.1]; exact hj))]
        exact hv j (List.mem_cons_of_mem _ hj)
      refine ⟨Fr, Fi ++ Fc, G1, List.nodup_append.mpr ⟨m1, k1, fun p hp r hr e => m2 p hp (a2 p (e ▸ hr))⟩, fun b hb => ?_, fun b hb => (m3 b).mpr (.inl (a1 b hb)), fun b hb => ?_, fun S2 s1 s2 s3 => ⟨x, ws, Fi, Fc, e, rfl, Rp.stay s1 t x Fi Stays.same (fun b hb => s3 b (List.mem_append_left _ hb)) ry, q S2 s1 s2 fun b hb => s3 b (List.mem_append_right _ hb)⟩⟩
      · rcases List.mem_append.mp hb with hb | hb
        · exact fun z => m2 b hb (a1 b z)
        · exact d1 b hb
      · rcases List.mem_append.mp hb with hb | hb
        · exact (m3 b).mpr (.inr hb)
        · exact (m3 b).mpr (.inl (a2 b hb))
    · cases hg
/-- .. and put back -/
theorem io_put : ∀ (os : List Od) (g ios : Env) (vs : List V) (Fr F2 F1 : List Addr) (S0 : Addr → Prop) (H0 : Hp), Good C S H g σ Fr → OdRel C S0 H0 σ os vs F1 → RpG C S H ios (vs.map some) F2 → F2.Nodup → Dj F2 Fr → ∃ F3, Good C S H (putIo g os ios) σ F3 ∧ ∀ b ∈ F3, b ∈ Fr ∨ b ∈ F2
  | [], g, ios, vs, Fr, F2, F1, S0, H0, G, h, hg, n, d => ⟨Fr, by cases ios <;> exact G, fun b hb => .inl hb⟩
  | .x t :: os, g, [], vs, Fr, F2, F1, S0, H0, G, h, hg, n, d => ⟨Fr, G, fun b hb => .inl hb⟩
  | .v t :: os, g, [], vs, Fr, F2, F1, S0, H0, G, h, hg, n, d => ⟨Fr, G, fun b hb => .inl hb⟩
  | .x t :: os, g, io :: ios, vs, Fr, F2, F1, S0, H0, G, ⟨x, ws, Fa, Fb, e, eF, r, h⟩, hg, n, d => by
    subst e
    cases io with
    | none =>
      obtain ⟨y, τ, e, hg⟩ := hg
      cases e
      exact io_put os g ios ws Fr F2 Fb S0 H0 G h hg n d
    | some u =>
      obtain ⟨y, τ, G1, G2, e, eF2, r2, hg⟩ := hg
      cases e
      subst eF2
      obtain ⟨n1, n2, n3⟩ := nd_dj n
      obtain ⟨F3, q1, q2⟩ := io_put os g ios ws Fr G2 Fb S0 H0 G h hg n2 fun b hb => d b (List.mem_append_right _ hb)
      exact ⟨F3, q1, fun b hb => (q2 b hb).imp id fun z => List.mem_append_right _ z⟩
  | .v i :: os, g, io :: ios, vs, Fr, F2, F1, S0, H0, G, ⟨x, ws, e, hx, h⟩, hg, n, d => by
    subst e
    have hi : i < g.length := by
      rw [← G.len]
      exact (List.getElem?_eq_some_iff.mp hx).1
    have hy : σ.getD i none = some x := by
      rw [List.getD_eq_getElem?_getD, hx] <;> rfl
    cases io with
    | none =>
      obtain ⟨y, τ, e, hg⟩ := hg
      cases e
      obtain ⟨Fs, G1, c1, _⟩ := G.put (i := i) hi (o := none) (y := σ.getD i none) (Fi := []) rfl List.nodup_nil (fun b hb => nomatch hb)
      rw [set_getD] at G1
      obtain ⟨F3, q1, q2⟩ := io_put os (g.set i none) ios ws Fs F2 F1 S0 H0 G1 h hg n fun b hb z => (c1 b z).elim (d b hb) fun z => nomatch z
      exact ⟨F3, q1, fun b hb => (q2 b hb).imp (fun z => (c1 b z).elim id fun z => nomatch z) id⟩
    | some u =>
      obtain ⟨y, τ, G1, G2, e, eF2, r2, hg⟩ := hg
      cases e
      subst eF2
      obtain ⟨n1, n2, n3⟩ := nd_dj n
      obtain ⟨Fs, G3, c1, c2⟩ := G.put (i := i) hi (o := some u) (y := σ.getD i none) (Fi := G1) ⟨x, hy, r2⟩ n1 fun b hb => d b (List.mem_append_left _ hb)
      rw [set_getD] at G3
      obtain ⟨F3, q1, q2⟩ := io_put os (g.set i (some u)) ios ws Fs G2 F1 S0 H0 G3 h hg n2 fun b hb z => (c1 b z).elim (d b (List.mem_append_right _ hb)) (n3 b hb)
      refine ⟨F3, q1, fun b hb => ?_⟩
      rcases q2 b hb with z | z
      · exact (c1 b z).imp id fun z => List.mem_append_left _ z
      · exact .inr (List.mem_append_right _ z)
theorem Good.tr {g : Env} {F F' F0 : List Addr} (G : Good C S H g σ F0) (t : Tr S H F S' H' F') (hF : ∀ b ∈ F, ¬ S b ∧ ∃ ys, H b = some (.lst ys)) (d : Dj F0 F) (sd : SDom S' H') : Good C S' H' g σ F0 :=
  G.stay t.sub (t.stays hF d) (t.noS d G.own) sd
/-- f(..), some parameters changed in place -/
theorem td_callI {f : Nat} {es : Es} {io : List Bool} {Q : VK} (hl : es.ioOk io = true) (h : tD C W M (.callI f es) σ H Q) : tL C W M es σ H fun vs H' => spF C io (M f) vs H' Q fun cls d H2 => W cls d σ H2 := by
  obtain ⟨S, g, F, G, h⟩ := h
  refine opnds es S H F g _ G ?_
  unfold ev at h
  cases e : evO M es g with
  | bad => rw [e] at h; exact h
  | exc c fs g1 => rw [e] at h; exact h
  | ok ods g1 =>
    rw [e] at h
    have hol := evO_io es g g1 ods io e hl
    have h' : outE C W σ S H F (match ioArgs g1 ods with | none => Rs.bad | some ts => if (vars ods).Nodup then match M f ts with | .ok t ios => Rs.ok t (putIo (clrV g1 ods) ods ios) | .exc c fs ios => Rs.exc c fs (putIo (clrV g1 ods) ods ios) | .bad => Rs.bad else Rs.bad) Q := h
    intro vs H1 S1 F1 Fa t1 G1 od na da
    cases e1 : ioArgs g1 ods with
    | none => rw [e1] at h'; exact h'.elim
    | some ts =>
      rw [e1] at h'
      simp only at h'
      by_cases nv : (vars ods).Nodup
      · rw [if_pos nv] at h'
        have ownA := OdRel.own ods vs Fa od
        obtain ⟨Fr, Fc, G2, n2, d2, a1, a2, q⟩ := io_take ods g1 F1 vs Fa ts G1 od nv e1 fun _ _ => rfl
        have dac : Dj Fa Fr := fun b hb z => da b hb (a1 b z)
        have cS : ∀ b ∈ Fc, ¬ SF S1 Fa b := fun b hb z => z.elim (fun z => (G1.own b (a2 b hb)).1 z) fun z => da b z (a2 b hb)
        have rl := q (SF S1 Fa) (fun a z => .inl z) (fun b hb => .inr hb) cS
        have G3 := G2.grow dac fun b hb => (ownA b hb).2
        have cO : ∀ b ∈ Fc, ¬ SF S1 Fa b ∧ ∃ ys, H1 b = some (.lst ys) := fun b hb => ⟨cS b hb, (G1.own b (a2 b hb)).2⟩
        have t0 : Tr S1 H1 (F1 ++ Fa) (SF S1 Fa) H1 (Fc ++ Fr) := Tr.froze (fun b hb => List.mem_append_left _ ((List.mem_append.mp hb).elim (a2 b) (a1 b))) fun b hb => List.mem_append_right _ hb
        refine ⟨SF S1 Fa, ts, Fc, rl, io_froz hol e1, n2, G3.sdom, ?_⟩
        have dr : Dj Fr Fc := d2.symm
        cases e2 : M f ts with
        | bad => rw [e2] at h'; exact h'.elim
        | ok t ios =>
          rw [e2] at h'
          simp only at h'
          intro x H2 S2 F2 Fx t2 sd rg ng rx nx dx
          have G4 := G3.tr t2 cO dr sd
          have nf := t2.noF dr G3.own
          obtain ⟨F3, G5, c1⟩ := io_put ods (clrV g1 ods) ios vs Fr F2 Fa S1 H1 G4 od rg ng fun b hb z => nf b z (List.mem_append_left _ hb)
          refine h' x H2 S2 F3 Fx (((t1.trans t0).trans t2.aside).sub' fun b hb => ?_) G5 rx nx fun b hb z => ?_
          · rcases List.mem_append.mp hb with hb | hb
            · rcases c1 b hb with z | z
              · exact List.mem_append_right _ z
              · exact List.mem_append_left _ (List.mem_append_left _ z)
            · exact List.mem_append_left _ (List.mem_append_right _ hb)
          · rcases c1 b z with z | z
            · exact nf b z (List.mem_append_right _ hb)
            · exact dx b hb z
        | exc c fs ios =>
          rw [e2] at h'
          simp only at h'
          intro cls d H2 S2 F2 t2 sd rg ng rx
          have G4 := G3.tr t2 cO dr sd
          have nf := t2.noF dr G3.own
          obtain ⟨F3, G5, c1⟩ := io_put ods (clrV g1 ods) ios vs Fr F2 Fa S1 H1 G4 od rg ng fun b hb z => nf b z hb
          refine h' cls d H2 S2 F3 (((t1.trans t0).trans t2.aside).sub' fun b hb => ?_) G5 rx
          rcases c1 b hb with z | z
          · exact List.mem_append_right _ z
          · exact List.mem_append_left _ z
      · rw [if_neg nv] at h'; exact h'.elim
theorem SlotRel.grow {o : Option T} {y : Option V} {F D : List Addr} (h : SlotRel C S H o y F) (n1 : ∀ b ∈ F, ¬ S b) (n2 : Dj F D) : SlotRel C (SF S D) H o y F := by
  cases o with
  | none => exact h
  | some t =>
    obtain ⟨x, e, r⟩ := h
    exact ⟨x, e, Rp.stay (fun _ z => .inl z) t x F Stays.same (fun b hb z => z.elim (n1 b hb) (n2 b hb)) r⟩
/-- all names but one frozen meanwhile -/
theorem td_hld {i : Nat} {e : E} {Q : VK} (h : tD C W M (.hld i e) σ H Q) : tD C W M e σ H Q := by
  obtain ⟨S, g, F, G, h⟩ := h
  unfold ev at h
  by_cases hi : i < g.length
  · obtain ⟨Fr, Fi, hs, G1, n1, d1, hm⟩ := G.take hi
    have G2 : Good C (SF S Fr) H (fzG (g.set i none)) σ [] := ⟨RpG.frozA (fun a z => .inl z) _ σ Fr (fun b hb => .inr hb) G1.rel, List.nodup_nil, fun a z => z.elim (G.sdom a) fun z => (G1.own a z).2⟩
    have hs2 := hs.grow (D := Fr) (fun b hb => (G.own b ((hm b).mpr (.inr hb))).1) d1
    obtain ⟨F3, G3, c1, _⟩ := G2.put (i := i) (by simp [fzG, hi]) hs2 n1 (fun b _ hb => nomatch hb)
    rw [set_getD] at G3
    have eg : (fzG (g.set i none)).set i (g.getD i none) = holdG i g := by
      unfold holdG fzG
      rw [List.map_set, List.set_set]
    rw [eg] at G3
    have F3i : ∀ b ∈ F3, b ∈ Fi := fun b hb => (c1 b hb).elim (fun z => nomatch z) id
    have back : ∀ {H2 : Hp} {S2 : Addr → Prop} {F2 Fx : List Addr} {g1 : Env} {u : T}, Tr (SF S Fr) H F3 S2 H2 (F2 ++ Fx) → Good C S2 H2 g1 σ F2 → g1.getD i none = some u → u.deep = true → Dj Fx F2 →
        ∃ F5, Good C S H2 (g.set i (some u)) σ F5 ∧ Tr S H F S H2 (F5 ++ Fx) ∧ (∀ b ∈ Fx, ¬ S b) ∧ Dj Fx F5 := by
      intro H2 S2 F2 Fx g1 u t2 G4 e2 hd dx
      obtain ⟨x', Fu, hx', ru, nu, hu⟩ := G4.get e2
      have fr : ∀ b ∈ F2 ++ Fx, b ∈ Fi ∨ H b = none := fun b hb => (t2.newF b hb).elim (fun z => .inl (F3i b z)) .inr
      have nS : ∀ b ∈ F2 ++ Fx, ¬ S b := fun b hb z => by
        rcases fr b hb with q | q
        · exact (G.own b ((hm b).mpr (.inr q))).1 z
        · obtain ⟨ys, e⟩ := G.sdom b z
          rw [q] at e; cases e
      have nFr : ∀ b ∈ F2 ++ Fx, b ∉ Fr := fun b hb z => by
        rcases fr b hb with q | q
        · exact d1 b q z
        · obtain ⟨_, ys, e⟩ := G1.own b z
          rw [q] at e; cases e
      have st : Stays S Fr H H2 := fun b o e z => t2.keep b o e fun hb => by
        have hb' := F3i b hb
        rcases z with z | z | z
        · exact (G.own b ((hm b).mpr (.inr hb'))).1 z
        · exact d1 b hb' z
        · obtain ⟨_, ys, e'⟩ := G.own b ((hm b).mpr (.inr hb'))
          rw [e] at e'
          exact z ys (Option.some.inj e')
      have G5 : Good C S H2 (g.set i none) σ Fr := G1.stay (fun _ z => z) st (fun b hb => (G1.own b hb).1) fun a z => by
        obtain ⟨ys, e⟩ := G.sdom a z
        exact ⟨ys, st a _ e (.inl z)⟩
      have ru' : Rp C S H2 u x' Fu := Rp.deep u x' Fu hd (fun b hb => nS b (List.mem_append_left _ (hu b hb))) ru
      have hg : σ.getD i none = some x' := by rw [List.getD_eq_getElem?_getD, hx']; rfl
      obtain ⟨F5, G6, k1, _⟩ := G5.put (i := i) (o := some u) (y := σ.getD i none) (by simpa using hi) ⟨x', hg, ru'⟩ nu (fun b hb => nFr b (List.mem_append_left _ (hu b hb)))
      rw [List.set_set, set_getD] at G6
      refine ⟨F5, G6, ⟨fun _ z => z, fun b o e hn => t2.keep b o e fun hb => hn ((hm b).mpr (.inr (F3i b hb))), fun b z => .inl z, fun b hb => ?_, t2.dom⟩, fun b hb => nS b (List.mem_append_right _ hb), fun b hb z => ?_⟩
      · rcases List.mem_append.mp hb with hb | hb
        · rcases k1 b hb with z | z
          · exact .inl ((hm b).mpr (.inl z))
          · exact (fr b (List.mem_append_left _ (hu b z))).imp (fun z => (hm b).mpr (.inr z)) id
        · exact (fr b (List.mem_append_right _ hb)).imp (fun z => (hm b).mpr (.inr z)) id
      · rcases k1 b z with z | z
        · exact nFr b (List.mem_append_right _ hb) z
        · exact dx b hb (hu b z)
    refine ⟨_, _, F3, G3, ?_⟩
    cases e1 : ev M e (holdG i g) with
    | bad => rw [e1] at h; exact h
    | ok t g1 =>
      rw [e1] at h
      simp only at h
      cases e2 : g1.getD i none with
      | none => rw [e2] at h; exact h.elim
      | some u =>
        rw [e2] at h
        simp only at h
        by_cases hd : (t.deep && u.deep) = true
        · rw [if_pos hd] at h
          rw [Bool.and_eq_true] at hd
          intro x H2 S2 F2 Fx t2 G4 rx nx dx
          obtain ⟨F5, G6, t3, q1, q2⟩ := back t2 G4 e2 hd.2 dx
          exact h x H2 S F5 Fx t3 G6 (Rp.deep t x Fx hd.1 q1 rx) nx q2
        · rw [if_neg hd] at h; exact h.elim
    | exc c fs g1 =>
      rw [e1] at h
      simp only at h
      cases e2 : g1.getD i none with
      | none => rw [e2] at h; exact h.elim
      | some u =>
        rw [e2] at h
        simp only at h
        by_cases hd : (T.deepL fs && u.deep) = true
        · rw [if_pos hd] at h
          rw [Bool.and_eq_true] at hd
          intro cls d H2 S2 F2 t2 G4 rx
          obtain ⟨F5, G6, t3, _, _⟩ := back (Fx := []) (t2.sub' fun b hb => by rw [List.append_nil] at hb; exact hb) G4 e2 hd.2 fun b hb => nomatch hb
          obtain ⟨ec, dd, ys, ws, ed, hdd, rw', hfl⟩ := rx
          exact h cls d H2 S F5 (t3.sub' fun b hb => List.mem_append_left _ hb) G6 ⟨ec, dd, ys, ws, ed, hdd, RpL.deep fs ws [] hd.1 (fun b hb => nomatch hb) rw', hfl⟩
        · rw [if_neg hd] at h; exact h.elim
  · have G' : Good C (SF S F) H (fzG g) σ [] := ⟨RpG.frozA (fun a z => .inl z) g σ F (fun b hb => .inr hb) G.rel, List.nodup_nil, fun a z => z.elim (G.sdom a) fun z => (G.own a z).2⟩
    have eg : holdG i g = fzG g := by
      unfold holdG
      rw [List.set_eq_of_length_le (by simp [fzG]; omega)]
    rw [eg] at h
    refine ⟨_, _, _, G', ?_⟩
    have no : ∀ {S2 : Addr → Prop} {H2 : Hp} {F2 : List Addr} {g1 : Env} {u : T}, Good C S2 H2 g1 σ F2 → g1.getD i none = some u → False := fun G4 e2 => by
      have := getD_lt e2
      have l1 := G4.len
      have l2 := G.len
      omega
    cases e1 : ev M e (fzG g) with
    | bad => rw [e1] at h; exact h
    | ok t g1 =>
      rw [e1] at h
      simp only at h
      cases e2 : g1.getD i none with
      | none => rw [e2] at h; exact h.elim
      | some u => exact fun x H2 S2 F2 Fx t2 G4 rx nx dx => (no G4 e2).elim
    | exc c fs g1 =>
      rw [e1] at h
      simp only at h
      cases e2 : g1.getD i none with
      | none => rw [e2] at h; exact h.elim
      | some u => exact fun cls d H2 S2 F2 t2 G4 rx => (no G4 e2).elim
end Kv

/-! Kv 71: the classes of the errors; where an error is handled. -/
namespace Kv
open PySem L2
/-- what the written part says of the classes -/
structure ClsF (K : PySem.W.Frag) (cad : Nat → Addr) : Prop where
  ex : ∀ c, c < 16 → L2.ExcC K (cad c)
  no : ∀ c, c < 16 → ∀ f ∈ flds c, PySem.W.findIn K (.ref (cad c)) f = some none
  kit : ∀ c d, c < 16 → d < 16 → PySem.W.kitOne K (.ref (cad c)) (.ref (cad d)) = some (isSub c d)
  kitV : ∀ c, c < 16 → PySem.W.kitOne K (.ref (cad c)) (.type "ValueError") = some true
  exm : ∀ c d, c < 16 → d < 16 → PySem.W.exmOne K (.ref (cad c)) (.ref (cad d)) = some (isSub c d)
/-- the exception that is handled: at a, its class c, its dict d -/
structure HotI (C : RC) (X : Cx) (a : Addr) (c : Nat) (d : Addr) (oe : Obj) : Prop where
  ex : C.ex = some (a, c, d)
  hot : L2H.Hot1 X.A (a, oe)
  mem : (a, oe) ∈ X.pn
  zn : L2N.Zn (.ref (C.cad c)) (some d) oe
  lt : c < 16
variable {C : RC} {S : Addr → Prop} {H : Hp} {X : Cx} {σ : St} {s : Shared} {pins : List (Addr × Obj)} {a d : Addr} {c : Nat} {oe : Obj}
theorem HotI.flds (h : HotI C X a c d oe) : ∃ vs, oe.data = .fields vs := by
  obtain ⟨_, vs, e, _⟩ := h.hot
  exact ⟨vs, e⟩
theorem HotI.hotC (h : HotI C X a c d oe) : L2H.HotC X := ⟨(a, oe), h.hot, h.mem⟩
/-- where it stands -/
theorem HotI.inst (h : HotI C X a c d oe) (I : Inv X pins σ H s) {ys : List (Str × V)} (hd : H d = some (.xd ys)) : ∃ (od : Obj) (mA : Str → Option Value), PySem.W.InstAt s.heap a oe (C.cad c) (some od) ∧ (∀ x, PySem.W.lookIn x od = some (mA x)) ∧ ∀ f, RelO (ys.lookup f) (mA f) := by
  obtain ⟨ha, _⟩ := I.pin (a, oe) (List.mem_append_left _ h.mem)
  obtain ⟨vs, hv⟩ := h.flds
  have hx : ObjOk X.prog X.w H s.heap d (.xd ys) := I.hok d _ hd
  obtain ⟨mA, hns, hr⟩ := hx
  obtain ⟨od, ho, hl⟩ := lookIn_ns hns
  exact ⟨od, mA, ⟨ha, h.zn.1, by unfold PySem.W.notCls; rw [hv] <;> rfl, by rw [h.zn.2.1]; exact ho⟩, hl, hr⟩
theorem kitx_hot (F : ClsF C.K C.cad) (h : HotI C X a c d oe) {od : Option Obj} : PySem.W.KitX C.K (.ref a) (.ref (C.cad c)) (fun h => PySem.W.InstAt h a oe (C.cad c) od) := by
  have E := F.ex c h.lt
  exact PySem.W.kitx_exc (by
    have q := E.hd
    unfold PySem.W.hasDictIn at q
    cases e : PySem.W.clsIn C.K (C.cad c) with
    | none => rw [e] at q; cases q
    | some _ => rfl) E.hg E.hk E.hs E.ha E.hn E.ht E.hm
/-- the handled exception as an operand -/
theorem isE_of {cs : List Nat} {x : V} {Q : VK} (h : rOp C (.isE cs) [x] H Q) : ∃ a c d ys, C.ex = some (a, c, d) ∧ x = .ref a ∧ H d = some (.xd ys) ∧ ∀ H', Same H H' → Q (.bl (cs.any (isSub c))) H' := by
  obtain ⟨S, ts, t, hr, hf, hd, ho, hq⟩ := h
  replace ho : isES cs ts = some t := ho
  unfold isES at ho
  split at ho
  · cases ho
    obtain ⟨x', F, e, ra⟩ := hr.inv1
    cases e
    obtain ⟨_, a, d, ys, vs, e1, e2, e3, _⟩ := ra
    exact ⟨a, _, d, ys, e1, e2, e3, fun H' k => hq _ H' [] k (fun b hb => nomatch hb) List.nodup_nil ⟨rfl, rfl⟩⟩
  · cases ho
theorem fld_of {f : Str} {x : V} {Q : VK} (h : rOp C (.fld f) [x] H Q) : ∃ a c d ys v, C.ex = some (a, c, d) ∧ x = .ref a ∧ H d = some (.xd ys) ∧ f ∈ flds c ∧ ys.lookup f = some v ∧ Q v H := by
  obtain ⟨S, ts, t, hr, hf, hd, ho, hq⟩ := h
  replace ho : fldS f ts = some t := ho
  unfold fldS at ho
  split at ho
  · obtain ⟨x', F, e, ra⟩ := hr.inv1
    cases e
    obtain ⟨_, a, d, ys, vs, e1, e2, e3, r, fa⟩ := ra
    obtain ⟨i, v, h1, h2, h3, h4⟩ := fld_ix _ _ vs [] ho r
    obtain ⟨v', h5, h6⟩ := fa i f h1
    rw [h2] at h5
    cases h5
    refine ⟨a, _, d, ys, v, e1, e2, e3, List.mem_of_getElem? h1, h6, hq v H [] (fun _ _ e => e) (fun b hb => nomatch hb) List.nodup_nil ?_⟩
    obtain ⟨Fv, h4, hm⟩ := h4
    have e0 : Fv = [] := by
      cases Fv with
      | nil => rfl
      | cons b _ => exact absurd (hm b List.mem_cons_self) (by simp)
    subst e0
    exact h4
  · cases ho
where
  fld_ix {f : Str} {t : T} {S : Addr → Prop} : ∀ (ns : List Str) (fs : List T) (vs : List V) (F : List Addr), fldOf ns fs f = some t → RpL C S H fs vs F → ∃ i v, ns[i]? = some f ∧ vs[i]? = some v ∧ True ∧ ∃ Fv, Rp C S H t v Fv ∧ ∀ b ∈ Fv, b ∈ F
    | [], fs, vs, F, h, _ => by cases fs <;> cases h
    | n :: ns, [], vs, F, h, _ => by cases h
    | n :: ns, u :: us, vs, F, h, ⟨v, ws, F1, F2, e, eF, r1, r2⟩ => by
      subst e eF
      unfold fldOf at h
      split at h
      · rename_i hn
        cases h
        exact ⟨0, v, by rw [hn]; rfl, rfl, trivial, F1, r1, fun b hb => List.mem_append_left _ hb⟩
      · obtain ⟨i, v', h1, h2, _, Fv, h3, h4⟩ := fld_ix ns us ws F2 h r2
        exact ⟨i + 1, v', h1, h2, trivial, Fv, h3, fun b hb => List.mem_append_right _ (h4 b hb)⟩
/-- isinstance(e, one class) -/
theorem ok_isE1 (hK : C.K = X.K) (F : ClsF C.K C.cad) (h : HotI C X a c d oe) {k : Nat} (hk : k < 16) : CallR X (.builtin "isinstance") (fun xs H Q => ∃ x, xs = [x, .ref (C.cad k)] ∧ rOp C (.isE [k]) [x] H Q) := by
  intro pins s σ H xs us Q I r q
  obtain ⟨x, rfl, q⟩ := q
  obtain ⟨a', c', d', ys, e1, rfl, hd, q⟩ := isE_of q
  rw [h.ex] at e1
  cases e1
  obtain ⟨u1, u2, rfl, r1, r2⟩ := vals2 r
  cases (show u1 = Value.ref a from r1)
  cases (show u2 = Value.ref (C.cad k) from r2)
  obtain ⟨od, mA, J, _⟩ := h.inst I hd
  have kIn : C.K.In s.heap := by rw [hK]; exact I.kIn
  have e := F.kit c k h.lt hk
  have eb : [k].any (isSub c) = isSub c k := by simp
  rw [eb] at q
  exact PySem.W.kia_one (kitx_hot F h) kIn J e (fun z => nomatch z) fun tk => ⟨.bl _, H, I.tok tk, rfl, q H (fun _ _ z => z)⟩
theorem ok_isEV (hK : C.K = X.K) (F : ClsF C.K C.cad) (h : HotI C X a c d oe) : CallR X (.builtin "isinstance") (fun xs H Q => ∃ x, xs = [x, .ty "ValueError"] ∧ rOp C (.isE [0]) [x] H Q) := by
  intro pins s σ H xs us Q I r q
  obtain ⟨x, rfl, q⟩ := q
  obtain ⟨a', c', d', ys, e1, rfl, hd, q⟩ := isE_of q
  rw [h.ex] at e1
  cases e1
  obtain ⟨u1, u2, rfl, r1, r2⟩ := vals2 r
  cases (show u1 = Value.ref a from r1)
  cases (show u2 = Value.type "ValueError" from r2)
  obtain ⟨od, mA, J, _⟩ := h.inst I hd
  have kIn : C.K.In s.heap := by rw [hK]; exact I.kIn
  have eb : [0].any (isSub c) = true := by simp [isSub]
  rw [eb] at q
  exact PySem.W.kia_one (kitx_hot F h) kIn J (F.kitV c h.lt) (fun z => nomatch z) fun tk => ⟨.bl _, H, I.tok tk, rfl, q H (fun _ _ z => z)⟩
theorem kit_any {K : PySem.W.Frag} {cad : Nat → Addr} (F : ClsF K cad) {c : Nat} (hc : c < 16) : ∀ (cs : List Nat), (∀ k ∈ cs, k < 16) → PySem.W.kitAny K (.ref (cad c)) (cs.map fun k => Value.ref (cad k)) = some (cs.any (isSub c))
  | [], _ => rfl
  | k :: cs, h => by
    have e := F.kit c k hc (h k List.mem_cons_self)
    have ih := kit_any F hc cs fun k hk => h k (List.mem_cons_of_mem _ hk)
    show PySem.W.kitAny K (.ref (cad c)) (Value.ref (cad k) :: cs.map fun k => Value.ref (cad k)) = _
    refine kitAny_cons e (fun z => ?_) fun z => ?_
    · rw [ih, List.any_cons, z, Bool.false_or]
    · rw [List.any_cons, z, Bool.true_or]
theorem clsV_all {cad : Nat → Addr} : ∀ (cs : List Nat), Paired ClsV (cs.map fun k => V.ref (cad k)) (cs.map fun k => Value.ref (cad k))
  | [] => .nil
  | k :: cs => .cons (.own _) (clsV_all cs)
/-- isinstance(e, (classes)) -/
theorem ok_isET (hK : C.K = X.K) (F : ClsF C.K C.cad) (h : HotI C X a c d oe) {cs : List Nat} (hc : ∀ k ∈ cs, k < 16) : CallR X (.builtin "isinstance") (fun xs H Q => ∃ x tp, xs = [x, .ref tp] ∧ H tp = some (.tup (cs.map fun k => V.ref (C.cad k))) ∧ rOp C (.isE cs) [x] H Q) := by
  intro pins s σ H xs us Q I r q
  obtain ⟨x, tp, rfl, hT, q⟩ := q
  obtain ⟨a', c', d', ys, e1, rfl, hd, q⟩ := isE_of q
  rw [h.ex] at e1
  cases e1
  obtain ⟨u1, u2, rfl, r1, r2⟩ := vals2 r
  cases (show u1 = Value.ref a from r1)
  cases (show u2 = Value.ref tp from r2)
  obtain ⟨od, mA, J, _⟩ := h.inst I hd
  have kIn : C.K.In s.heap := by rw [hK]; exact I.kIn
  obtain ⟨_, its, rv, o, h1, h2, n, h3⟩ := (show ObjOk X.prog X.w H s.heap tp (.tup (cs.map fun k => V.ref (C.cad k))) from I.hok tp _ hT)
  have e3 := ClsV.all (clsV_all cs) rv
  subst e3
  obtain ⟨oc, od', dt, sl⟩ := o
  simp only at h2 h3
  subst h2 h3
  exact PySem.W.kia_tup (kitx_hot F h) kIn J h1 (kit_any F h.lt cs hc) (fun z => nomatch z) fun tk => ⟨.bl _, H, I.tok tk, rfl, q H (fun _ _ z => z)⟩
/-- e.f -/
theorem pe_fld (hK : C.K = X.K) (F : ClsF C.K C.cad) (h : HotI C X a c d oe) {e : Expr} {te : TE} {f : Str} {pos : Pos} (he : PE X e te) (hb : attributeBase e f X.env (eval e X.env) = eval e X.env) :
    PE X (.Attribute e f pos) (fun σ H Q => te σ H fun x H1 => rOp C (.fld f) [x] H1 Q) := by
  refine ⟨fun pins s σ H Q I q => ?_⟩
  refine attr_of hb (thn (he.run pins s σ H _ I q) fun u s1 hh => ?_)
  obtain ⟨x, H1, I1, rx, q⟩ := hh
  obtain ⟨a', c', d', ys, v, e1, rfl, hd, hm, hl, qq⟩ := fld_of q
  rw [h.ex] at e1
  cases e1
  obtain rfl : u = Value.ref a := rx
  obtain ⟨od, mA, J, hlk, hr⟩ := h.inst I1 hd
  obtain ⟨u, hu, ru⟩ := RelO.some_of (v := v) (o := mA f) (by rw [← hl]; exact hr f)
  have kIn : C.K.In s1.heap := by rw [hK]; exact I1.kIn
  have E := F.ex c h.lt
  exact HandSPX.exc_get kIn J E.hg E.hk E.hs (PySem.W.findObj_own E.hd (F.no c h.lt f hm) rfl (by rw [hlk, hu])) (handed_of ru) ⟨v, H1, I1.tok _, ru, qq⟩
end Kv

/-! Kv 72: defs that are called where an error is handled; calls with names alone. -/
namespace Kv
open PySem L2 PySem.Spec PyProof.Rows
/-- .. the same written part, an exception at a -/
def RC.hotAt (C : RC) (a : Addr) (c : Nat) (d : Addr) : RC := { C with ex := some (a, c, d) }
/-- what such a def promises, whatever is handled -/
structure FnHC (P : Program) (w : World) (K : PySem.W.Frag) (mg : Str → Option Value) (base : Heap) (CX : CXT) (C : RC) (k : Nat) (f : Addr) (fd : FuncData) (ps : List Str) (sp : RC → Sp) : Prop where
  len : ∀ C vs H Q E, sp C vs H Q E → vs.length = ps.length
  run : ∀ (A : Around) (outer : List PySem.Env) (s : Shared) (H : Hp) (args : Args) (us : List Value) (vs : List V) (Q : VK) (E : XK) (a : Addr) (c : Nat) (d : Addr) (oe : Obj), L2H.RoomH k A → L2H.Hot1 A (a, oe) → L2H.PinOk outer H s (a, oe) →
    L2N.Zn (.ref (C.cad c)) (some d) oe → c < 16 → Env0 P w K mg base A outer s H → BindsTo s fd args (ps.zip us) → Vals vs us → sp (C.hotAt a c d) vs H Q E → codeAny (model P w) A (.call (.ref f) args) (CR CX outer P w H s Q E) s
theorem fn_ofHC {CX : CXT} {P : Program} {w : World} {K : PySem.W.Frag} {mg : Str → Option Value} {base : Heap} {C : RC} {k : Nat} {f : Addr} {name qual : Str} {params : Arguments} {body : List Stmt} {scope : Scope} {dV kV doc pm cdv ct oc : Value} {an od : Option Addr}
    {osl : Array (Option Value)} {N ps : List Str} {sp : RC → Sp} (lk : K.lookup f = some ⟨oc, od, .func (PySem.W.fnOf name qual params body scope dV kV doc pm an cdv ct), osl⟩) (hcd : PySem.W.codeIn K cdv qual = true) (S : FnScope N ps scope)
    (len : ∀ C vs H Q E, sp C vs H Q E → vs.length = ps.length)
    (hbody : ∀ (A : Around) (outer : List PySem.Env) (s : Shared) (H : Hp) (vs : List V) (Q : VK) (E : XK) (a : Addr) (c : Nat) (d : Addr) (oe : Obj), L2H.Hot1 A (a, oe) → L2N.Zn (.ref (C.cad c)) (some d) oe → c < 16 → L2H.RoomH k (A.deeper (envOfC qual scope s.heap.objs.size f cdv)) → sp (C.hotAt a c d) vs H Q E →
      ∃ t, PSs (L2H.cxH CX P w K mg base N qual scope f cdv A outer s H E (a, oe)) body t ∧ t { nx := fun _ H' => Q .non H', rt := Q } (L2.start N vs) H) :
    FnHC P w K mg base CX C (k + 1) f (PySem.W.fnOf name qual params body scope dV kV doc pm an cdv ct) ps sp := by
  refine ⟨len, fun A outer s H args us vs Q E a c d oe hr hot hpin hz hc e0 hb r hsp => ?_⟩
  have hl := len _ _ _ _ _ hsp
  have KX : K.In s.heap := e0.mod.kin.keeps fun b o e => (e0.bs b o e).1
  have lim : s.heap.NoLimit := e0.mod.nolimit.keeps fun b o e => (e0.bs b o e).1
  have hkind : ∀ y ∈ ps.zip us, scope.names.lookup y.1 = some .local ∨ (scope.names.lookup y.1 = some .cell ∧ ((cellsFrom (s.heap.objs.size + 1) scope.names []).lookup y.1).isSome = true) := by
    rintro ⟨n, v⟩ hy
    exact (S.par n (List.of_mem_zip hy).1).imp id fun q => ⟨q, PySem.W.cellsFrom_some _ _ _ (.inl q)⟩
  refine codeAny_call_function hr.depth (KX _ _ lk) rfl S.co S.gen rfl (PySem.W.codeRec_of KX hcd) (hb _ _ _ _ ?_)
  refine wpAny_newFunctionEnv_cells S.kind hkind fun env he s1 x => ?_
  subst he
  refine ⟨lim.keeps x.toInCall.keep, codeAny_func ?_⟩
  obtain ⟨t, ht, hq⟩ := hbody A outer s H vs Q E a c d oe hot hz hc (hr.deeper _) hsp
  have I := L2H.inv_startH (CX := CX) (E := E) S hpin e0 hl r x
  refine wpAny_mono (ht.run [] s1 (L2.start N vs) H _ I hq) (fun fl s' hs => ?_) fun e s' hs => hs
  have fin : ∀ {σ' : L2.St} {H' : Hp} {v : V} {u : Value}, Inv (L2H.cxH CX P w K mg base N qual scope f cdv A outer s H E (a, oe)) [] σ' H' s' → RelV v u → Q v H' → CE outer P w H s Q u s' :=
    fun {σ' H' v u} J rv q => ⟨v, H', J.os, J.bare, J.base, J.hok, rv, q⟩
  cases fl with
  | ret u =>
    obtain ⟨v, σ', H', J, rv, q⟩ := hs
    exact fin J rv q
  | next =>
    obtain ⟨σ', H', J, q⟩ := hs
    exact fin (v := V.non) (u := Value.none) J rfl q
  | brk => exact (hs.choose_spec.choose_spec.2 : False).elim
  | cont => exact (hs.choose_spec.choose_spec.2 : False).elim
variable {C : RC} {X : Cx} {CX : CXT} {k : Nat} {f a d : Addr} {c : Nat} {oe : Obj} {fd : FuncData} {ps : List Str} {sp : RC → Sp} {E : L2.St → XK} {x : Str} {q pos : Pos} {e : Expr} {es : List Expr} {t : TA}
theorem run_fnHC {pins : List (Addr × Obj)} {σ : L2.St} {H : Hp} {s : Shared} {Q : VK} {us : List Value} {vs : List V} {C0 : RC} (F : FnHC X.prog X.w X.K X.mg X.base CX C0 k f fd ps sp) (hC : C = C0.hotAt a c d) (hr : L2H.RoomH k X.A) (hh : HotI C X a c d oe) (hb : Binds X.K fd ps []) (hx : PassesAt CX X σ (E σ))
    (I : Inv X pins σ H s) (r : Vals vs us) (h : sp C vs H Q (E σ)) : wpAny (model X.prog X.w) X.A (call (.ref f) us) (EP X pins σ Q) X.xe s := by
  have hl : us.length = ps.length := by rw [← r.length]; exact F.len _ _ _ _ _ h
  have b := hb s us I.kIn (by rw [List.append_nil]; exact hl)
  rw [List.append_nil] at b
  have P1 := I.pin (a, oe) (List.mem_append_left _ hh.mem)
  have hpin : L2H.PinOk X.stack H s (a, oe) := ⟨P1.1, P1.2.1, fun hm => (List.mem_cons.mp (I.stkSub a hm)).elim P1.2.2.1 P1.2.2.2.1, P1.2.2.2.2⟩
  subst hC
  refine wpAny_call (codeAny_mono (F.run X.A X.stack s H ⟨us, []⟩ us vs Q (E σ) a c d oe hr hh.hot hpin hh.zn hh.lt I.env0 b r h) fun r s' hq => ?_)
  cases r with
  | error e => exact hx pins H s e s' I hq
  | ok fl =>
    cases fl with
    | ret u => exact I.after hq
    | next => exact False.elim hq
    | brk => exact False.elim hq
    | cont => exact False.elim hq
theorem pe_callHC {C0 : RC} (F : FnHC X.prog X.w X.K X.mg X.base CX C0 k f fd ps sp) (hC : C = C0.hotAt a c d) (hr : L2H.RoomH k X.A) (hh : HotI C X a c d oe) (hg : Gl X x) (hm : X.mg x = some (.ref f)) (hk : PySem.W.keepIn X.K (.ref f) = true) (hb : Binds X.K fd ps []) (hx : ∀ σ, PassesAt CX X σ (E σ))
    (ha : PA X (e :: es) t) (hdb : (x == ("__debug__" : Str)) = false) (he : starEach (e :: es) X.env = (false, eval e X.env) :: starEach es X.env) (hpl : (backTo pos (starEach es X.env)).any (·.1) = false) :
    PE X (.Call (.Name x q) (e :: es) [] pos) (tCallS (sp C) E t) := by
  refine ⟨fun pins s σ H Q I h => ?_⟩
  refine wpAny_Call_Name_kw (ld_glob I hg hm ?_ hdb)
  refine PySem.W.callWith_K (h₀ := X.base) I.ok.mod.kin hk (thn (ha.run pos pins s σ H _ I h) fun us s1 ⟨vs, H1, I1, r, q⟩ => ⟨I1.kIn, ?_⟩) he hpl
  exact run_fnHC F hC hr hh hb (hx σ) I1 r q

/-! ### names, defaults -/
def permD {α : Type} (d : α) (perm : List Nat) (dv : List α) (us ws : List α) : List α := perm.map fun i => (us ++ ws ++ dv).getD i d
theorem vals_getD {zs : List V} {ws : List Value} (r : Vals zs ws) (i : Nat) : RelV (zs.getD i .non) (ws.getD i .none) := by
  rw [List.getD_eq_getElem?_getD, List.getD_eq_getElem?_getD]
  cases e : zs[i]? with
  | none =>
    have : ws[i]? = none := by
      rw [List.getElem?_eq_none_iff] at e ⊢
      rw [← r.length]; exact e
    rw [this]
    exact (rfl : RelV .non .none)
  | some z =>
    obtain ⟨u, hu, ru⟩ := r.get e
    rw [hu]
    exact ru
theorem vals_perm {zs : List V} {ws : List Value} (r : Vals zs ws) : ∀ perm : List Nat, Vals (perm.map fun i => zs.getD i .non) (perm.map fun i => ws.getD i .none)
  | [] => .nil
  | i :: p => .cons (vals_getD r i) (vals_perm r p)
def Kdv : T → V
  | .int i => .int i
  | .bl b => .bl b
  | .str z => .str z
  | _ => .non
/-- one way of a call -/
def KdOk (K : PySem.W.Frag) (fd : FuncData) (ps : List Str) (q : Nat × List Str × List Nat × List T) : Prop := ∃ dv : List Value, Vals (q.2.2.2.map Kdv) dv ∧ ∀ (s : Shared) (us ws : List Value), K.In s.heap → us.length = q.1 → ws.length = q.2.1.length → BindsTo s fd ⟨us, q.2.1.zip ws⟩ (ps.zip (permD .none q.2.2.1 dv us ws))
theorem KdOk.kbn {K : PySem.W.Frag} {q : Nat × List Str × List Nat × List T} (h : KdOk K fd ps q) : ∃ g, KBn K fd ps q.1 q.2.1 g (permD .non q.2.2.1 (q.2.2.2.map Kdv)) := by
  obtain ⟨dv, r, h⟩ := h
  exact ⟨permD .none q.2.2.1 dv, ⟨h, fun r1 r2 => vals_perm ((r1.append r2).append r) _⟩⟩
def tCallKS (n m : Nat) (sp : Sp) (gV : List V → List V → List V) (E : L2.St → XK) (t tk : TA) : TE := fun σ H Q => t σ H fun vs H1 => tk σ H1 fun zs H2 => vs.length = n ∧ zs.length = m ∧ sp (gV vs zs) H2 Q (E σ)
theorem run_fnNS {pins : List (Addr × Obj)} {σ : L2.St} {H : Hp} {s : Shared} {Q : VK} {us ws : List Value} {vs zs : List V} {sp : Sp} {n : Nat} {ks : List Str} {E : XK} {g : List Value → List Value → List Value} {gV : List V → List V → List V} (F : FnOk X.prog X.w X.K X.mg X.base CX k f fd ps sp) (hr : Room k X.A) (hb : KBn X.K fd ps n ks g gV) (hx : PassesAt CX X σ E)
    (I : Inv X pins σ H s) (r : Vals vs us) (rz : Vals zs ws) (l1 : vs.length = n) (l2 : zs.length = ks.length) (h : sp (gV vs zs) H Q E) : wpAny (model X.prog X.w) X.A (call (.ref f) us (ks.zip ws)) (EP X pins σ Q) X.xe s := by
  have r2 := hb.rel r rz
  refine wpAny_call (codeAny_mono (F.run X.A X.stack s H ⟨us, ks.zip ws⟩ (g us ws) (gV vs zs) Q E hr I.env0 (hb.to s us ws I.kIn (r.length.symm.trans l1) (rz.length.symm.trans l2)) r2 h) fun r s' hq => ?_)
  cases r with
  | error e => exact hx pins H s e s' I hq
  | ok fl =>
    cases fl with
    | ret u => exact I.after hq
    | next => exact False.elim hq
    | brk => exact False.elim hq
    | cont => exact False.elim hq
theorem pe_callNS {sp : Sp} {n : Nat} {ks : List Str} {e : Expr} {es : List Expr} {kws : List Keyword} {t tk : TA} {g : List Value → List Value → List Value} {gV : List V → List V → List V} (F : FnOk X.prog X.w X.K X.mg X.base CX k f fd ps sp) (hr : Room k X.A) (hg : Gl X x) (hm : X.mg x = some (.ref f)) (hk : PySem.W.keepIn X.K (.ref f) = true) (hb : KBn X.K fd ps n ks g gV) (hx : ∀ σ, PassesAt CX X σ (E σ))
    (ha : PA X (e :: es) t) (hkw : PK X kws tk) (hall : (backToKw pos (keywordEach kws X.env)).all (·.1.isSome) = true) (hks : (backToKw pos (keywordEach kws X.env)).filterMap (·.1) = ks)
    (hdb : (x == ("__debug__" : Str)) = false) (he : starEach (e :: es) X.env = (false, eval e X.env) :: starEach es X.env)
    (hpl : ((backTo pos (starEach (e :: es) X.env)).any (·.1) || (backToKw pos (keywordEach kws X.env)).any (·.1.isNone)) = false) :
    PE X (.Call (.Name x q) (e :: es) kws pos) (tCallKS n ks.length sp gV E t tk) := by
  refine ⟨fun pins s σ H Q I h => ?_⟩
  refine wpAny_Call_Name_kw (ld_glob I hg hm ?_ hdb)
  refine PySem.W.callWith_KW (h₀ := X.base) I.ok.mod.kin hk hall (thn (ha.run pos pins s σ H _ I h) fun us s1 ⟨vs, H1, I1, r, q⟩ => ?_) hpl he
  refine thn (hkw.run pos pins s1 σ H1 _ I1 q) fun ws s2 ⟨zs, H2, I2, rz, l1, l2, q2⟩ => ⟨I2.kIn, ?_⟩
  rw [hks]
  exact run_fnNS F hr hb (hx σ) I2 r rz l1 l2 q2
theorem pe_callN0 {sp : Sp} {ks : List Str} {kws : List Keyword} {tk : TA} {g : List Value → List Value → List Value} {gV : List V → List V → List V} (F : FnOk X.prog X.w X.K X.mg X.base CX k f fd ps sp) (hr : Room k X.A) (hg : Gl X x) (hm : X.mg x = some (.ref f)) (hk : PySem.W.keepIn X.K (.ref f) = true) (hb : KBn X.K fd ps 0 ks g gV) (hx : ∀ σ, PassesAt CX X σ (E σ))
    (hkw : PK X kws tk) (hall : (backToKw pos (keywordEach kws X.env)).all (·.1.isSome) = true) (hks : (backToKw pos (keywordEach kws X.env)).filterMap (·.1) = ks) (hdb : (x == ("__debug__" : Str)) = false)
    (hpl : ((backTo pos (starEach [] X.env)).any (·.1) || (backToKw pos (keywordEach kws X.env)).any (·.1.isNone)) = false) : PE X (.Call (.Name x q) [] kws pos) (tCallKS 0 ks.length sp gV E tNil tk) := by
  refine ⟨fun pins s σ H Q I h => ?_⟩
  refine wpAny_Call_Name_kw (ld_glob I hg hm ?_ hdb)
  refine PySem.W.callWith_KW0 (h₀ := X.base) I.ok.mod.kin hk hall (thn (hkw.run pos pins s σ H _ I h) fun ws s2 ⟨zs, H2, I2, rz, l1, l2, q2⟩ => ⟨I2.kIn, ?_⟩) hpl
  rw [hks]
  exact run_fnNS F hr hb (hx σ) I2 .nil rz l1 l2 q2

theorem rpl_get {C : RC} {S : Addr → Prop} {H : Hp} : ∀ (ts : List T) (vs : List V), RpL C S H ts vs [] → ∀ i, Rp C S H (ts.getD i .non) (vs.getD i .non) []
  | [], vs, h, i => by
    rw [h.1]
    exact ⟨rfl, rfl⟩
  | t :: ts, vs, ⟨v, ws, F1, F2, e, eF, r1, r2⟩, i => by
    subst e
    obtain ⟨e1, e2⟩ := List.append_eq_nil_iff.mp eF.symm
    subst e1 e2
    cases i with
    | zero => exact r1
    | succ i => exact rpl_get ts ws r2 i
theorem rpl_perm {C : RC} {S : Addr → Prop} {H : Hp} {ts : List T} {vs : List V} (r : RpL C S H (T.fzL ts) vs []) : ∀ perm : List Nat, RpL C S H (T.fzL (perm.map fun i => ts.getD i .non)) (perm.map fun i => vs.getD i .non) []
  | [] => ⟨rfl, rfl⟩
  | i :: p => by
    refine ⟨vs.getD i .non, p.map (fun i => vs.getD i .non), [], [], rfl, rfl, ?_, rpl_perm r p⟩
    have q := rpl_get _ _ r i
    have eq : (T.fzL ts).getD i .non = (ts.getD i .non).fz := by
      rw [fzL_map, List.getD_eq_getElem?_getD, List.getD_eq_getElem?_getD, List.getElem?_map]
      cases ts[i]? <;> rfl
    rw [eq] at q
    exact q
theorem rpl_app0 {C : RC} {S : Addr → Prop} {H : Hp} : ∀ (ts us : List T) (vs ws : List V), RpL C S H (T.fzL ts) vs [] → RpL C S H (T.fzL us) ws [] → RpL C S H (T.fzL (ts ++ us)) (vs ++ ws) []
  | [], us, vs, ws, h, h2 => by
    rw [h.1]
    exact h2
  | t :: ts, us, vs, ws, ⟨v, vs', F1, F2, e, eF, r1, r2⟩, h2 => by
    subst e
    obtain ⟨e1, e2⟩ := List.append_eq_nil_iff.mp eF.symm
    subst e1 e2
    exact ⟨v, vs' ++ ws, [], [], rfl, rfl, r1, rpl_app0 ts us vs' ws r2 h2⟩
/-- a constant that a default may be -/
def flatK : T → Bool
  | .int _ => true
  | .bl _ => true
  | .str _ => true
  | .non => true
  | _ => false
theorem rpl_kdv {C : RC} {S : Addr → Prop} {H : Hp} : ∀ (ts : List T), ts.all flatK = true → RpL C S H (T.fzL ts) (ts.map Kdv) []
  | [], _ => ⟨rfl, rfl⟩
  | t :: ts, h => by
    have h' : flatK t = true ∧ ts.all flatK = true := by simpa using h
    refine ⟨Kdv t, ts.map Kdv, [], [], rfl, rfl, ?_, rpl_kdv ts h'.2⟩
    cases t <;> first | exact ⟨rfl, rfl⟩ | (have := h'.1; cases this)
section
variable {S S' : Addr → Prop} {H H' : Hp} {W : WX} {M : Fns} {σ : L2.St}
theorem td_callK {f n : Nat} {perm : List Nat} {dfl : List T} {es : Es} {io : List Bool} {Q : VK} (hd0 : dfl.all flatK = true) (hl : perm.length = io.length) (h : tD C W M (.callK f n perm dfl es) σ H Q) : tL C W M es σ H fun vs H' => spF C io (M f) (permD .non perm (dfl.map Kdv) vs []) H' Q fun cls d H2 => W cls d σ H2 := by
  obtain ⟨S, g, F, G, h⟩ := h
  refine opnds es S H F g _ G ?_
  unfold ev at h
  cases e : evO M es g with
  | bad => rw [e] at h; exact h
  | exc c fs g1 => rw [e] at h; exact h
  | ok ods g1 =>
    rw [e] at h
    have h' : outE C W σ S H F (match getL g1 ods with | none => Rs.bad | some ts => match M f (T.fzL (perm.map fun i => (ts ++ dfl).getD i .non)) with | .ok t _ => if (perm.all (fun i => decide (i < (ts ++ dfl).length)) && t.deep) = true then Rs.ok t g1 else Rs.bad | .exc c fs _ => if (perm.all (fun i => decide (i < (ts ++ dfl).length)) && T.deepL fs) = true then Rs.exc c fs g1 else Rs.bad | .bad => Rs.bad) Q := h
    intro vs H1 S1 F1 Fa t1 G1 od na da
    cases e1 : getL g1 ods with
    | none => rw [e1] at h'; exact h'.elim
    | some ts =>
      rw [e1] at h'
      simp only at h'
      have ownA := OdRel.own ods vs Fa od
      have hSa : ∀ a, S1 a → SF S1 (F1 ++ Fa) a := fun a z => .inl z
      have rl := rpl_perm (rpl_app0 _ _ _ _ (od_froz G1 hSa (fun b hb => .inr (List.mem_append_left _ hb)) ods vs Fa ts od (fun b hb => .inr (List.mem_append_right _ hb)) e1) (rpl_kdv dfl hd0)) perm
      rw [show permD V.non perm (dfl.map Kdv) vs [] = perm.map fun i => (vs ++ dfl.map Kdv).getD i .non from by unfold permD; rw [List.append_nil]]
      refine ⟨SF S1 (F1 ++ Fa), T.fzL (perm.map fun i => (ts ++ dfl).getD i .non), [], rl, fz_frozen _ (by rw [List.length_map, hl]), List.nodup_nil, fun a z => z.elim (G1.sdom a) fun z => (List.mem_append.mp z).elim (fun z => (G1.own a z).2) fun z => (ownA a z).2, ?_⟩
      have nS : ∀ {b : Addr}, H1 b = none → ¬ S1 b := fun {b} hb z => by
        obtain ⟨ys, e⟩ := G1.sdom b z
        rw [hb] at e; cases e
      cases e2 : M f (T.fzL (perm.map fun i => (ts ++ dfl).getD i .non)) with
      | bad => rw [e2] at h'; exact h'.elim
      | ok t ios =>
        rw [e2] at h'
        simp only at h'
        split at h'
        · rename_i hd
          replace hd : t.deep = true := (Bool.and_eq_true_iff.mp hd).2
          intro x H2 S2 F2 Fx t2 sd rg ng rx nx dx
          have k := t2.same0
          have fr : ∀ b ∈ Fx, H1 b = none := fun b hb => (t2.newF b (List.mem_append_right _ hb)).elim (fun z => nomatch z) id
          refine h' x H2 S1 F1 Fx ((t1.sub' fun b hb => List.mem_append_left _ hb).trans (Tr.alloc k fr)) (G1.same k) (Rp.deep t x Fx hd (fun b hb => nS (fr b hb)) rx) nx fun b hb hf => ?_
          obtain ⟨_, ys, e⟩ := G1.own b hf
          rw [fr b hb] at e; cases e
        · exact h'.elim
      | exc c fs ios =>
        rw [e2] at h'
        simp only at h'
        split at h'
        · rename_i hd
          replace hd : T.deepL fs = true := (Bool.and_eq_true_iff.mp hd).2
          intro cls d H2 S2 F2 t2 sd rg ng rx
          have k := t2.same0
          obtain ⟨ec, dd, ys, ws, ed, hdd, rw', hfl⟩ := rx
          refine h' cls d H2 S1 F1 ((t1.sub' fun b hb => List.mem_append_left _ hb).trans ((Tr.alloc (F1 := []) k fun b hb => nomatch hb).sub' fun b hb => by rw [List.append_nil]; exact hb)) (G1.same k) ⟨ec, dd, ys, ws, ed, hdd, RpL.deep fs ws [] hd (fun b hb => nomatch hb) rw', hfl⟩
        · exact h'.elim
end
end Kv

/-! Kv 8: where one stands; the check of an expression is sound. -/
namespace Kv
open PySem L2

/-- what the callees keep -/
structure FnAt (P : Program) (w : World) (K : PySem.W.Frag) (mg : Str → Option Value) (base : Heap) (C : RC) (n : Nat) (i : FInfo) (m : List T → Fr) : Prop where
  ex : ∃ (f : Addr) (fd : FuncData), mg i.name = some (.ref f) ∧ PySem.W.keepIn K (.ref f) = true ∧ (i.pos = true → Binds K fd i.ps []) ∧ FnOk P w K mg base (L2N.CX P w) n f fd i.ps (spF C i.io m) ∧
    (∀ q ∈ i.kd, KdOk K fd i.ps q) ∧ ∃ oc od osl, K.lookup f = some ⟨oc, od, .func fd, osl⟩
/-- .. where an error is handled -/
structure FnHAt (P : Program) (w : World) (K : PySem.W.Frag) (mg : Str → Option Value) (base : Heap) (C : RC) (n : Nat) (i : FInfo) (m : List T → Fr) : Prop where
  ex : ∃ (f : Addr) (fd : FuncData), mg i.name = some (.ref f) ∧ PySem.W.keepIn K (.ref f) = true ∧ (i.pos = true → Binds K fd i.ps []) ∧ FnHC P w K mg base (L2N.CX P w) C n f fd i.ps (fun C => spF C i.io m)
structure Ctx (P : Prg) (C : RC) (M : Fns) (n : Nat) (Z : Nm) (W : WX) (X : Cx) : Prop where
  hK : C.K = X.K
  hN : X.N = Z.N
  nd : X.N.Nodup
  sc : X.env.scope = Z.sc
  fn : X.fn = Z.fn
  tk : L2N.Takes X W
  un : X.A.units + 64 < cLine
  bi : ∀ b ∈ P.bi, X.mg b = none
  cn : ∀ x t, P.cn.lookup x = some t → ∃ v u, X.mg x = some u ∧ RelV v u ∧ ∀ S H, Rp C S H t v []
  calm : Z.hot = false → X.calm = true ∧ Room n X.A
  cl : ClsF C.K C.cad
  cc : ∀ x c, P.cls.lookup x = some c → X.mg x = some (.ref (C.cad c)) ∧ c < 16
  cx : Z.hot = false → C.ex = none
  rm : L2H.RoomH n X.A
  ho : Z.hot = true → ∃ a c d oe, HotI C X a c d oe
  hf : ∀ k i, k ∈ P.hots → P.fns[k]? = some i → FnHAt X.prog X.w X.K X.mg X.base C n i (M k)
  fns : Z.hot = false → ∀ k i, k ∉ P.ho → P.fns[k]? = some i → FnAt X.prog X.w X.K X.mg X.base C n i (M k)
variable {P : Prg} {C : RC} {S S' : Addr → Prop} {H H' : Hp} {X : Cx} {W : WX} {M : Fns} {σ : St} {n : Nat} {Z : Nm}

theorem vis_of {sc : Scope} {x : Str} (h : visB sc x = true) : Vis sc x := by
  unfold visB at h
  split at h
  · exact .inl (by assumption)
  · exact .inr (.inl (by assumption))
  · exact .inr (.inr (by assumption))
  · cases h
theorem dbg_of {x : Str} (h : noDbg x = true) : (x == ("__debug__" : Str)) = false ∧ (x == ("__classdict__" : Str)) = false := by
  simpa [noDbg] using h
theorem Ctx.gl (c : Ctx P C M n Z W X) {x : Str} (h : glB Z.sc x = true) : Gl X x := by
  have h' : Z.sc.names.lookup x = some .globalImplicit := of_decide_eq_true h
  show X.env.scope.names.lookup x = some .globalImplicit
  rw [c.sc]
  exact h'
theorem Ctx.nm (c : Ctx P C M n Z W X) {e : Expr} {i : Nat} (h : isNm Z e i = true) : PE X e (tVar i) := by
  unfold isNm at h
  split at h
  · rename_i x p
    simp only [Bool.and_eq_true, decide_eq_true_eq] at h
    obtain ⟨⟨h1, h2⟩, h3⟩ := h
    obtain ⟨d1, d2⟩ := dbg_of h3
    exact pe_var (by rw [c.hN]; exact h1) (by rw [c.sc]; exact vis_of h2) d1 d2
  · cases h
theorem nm_plain {e : Expr} {i : Nat} (h : isNm Z e i = true) : ∃ x p, e = .Name x p := by
  unfold isNm at h
  split at h
  · exact ⟨_, _, rfl⟩
  · cases h
theorem eqK_eq {a b : T} (h : eqK a b = true) : a = b := by
  unfold eqK at h
  split at h <;> first
    | (rw [of_decide_eq_true h])
    | rfl
    | cases h
theorem Ctx.k (c : Ctx P C M n Z W X) {e : Expr} {t : T} (h : chkK P Z e t = true) : PE X e (tD C W M (.k t)) := by
  unfold chkK at h
  split at h
  · rw [← eqK_eq h]; exact pe_imp pe_int fun σ H Q q => td_k (t := .int _) (v := .int _) (fun S => ⟨rfl, rfl⟩) q
  · rw [← eqK_eq h]; exact pe_imp pe_str fun σ H Q q => td_k (t := .str _) (v := .str _) (fun S => ⟨rfl, rfl⟩) q
  · rw [← eqK_eq h]; exact pe_imp pe_bl fun σ H Q q => td_k (t := .bl _) (v := .bl _) (fun S => ⟨rfl, rfl⟩) q
  · rw [← eqK_eq h]; exact pe_imp pe_non fun σ H Q q => td_k (t := .non) (v := .non) (fun S => ⟨rfl, rfl⟩) q
  · rename_i x p
    simp only [Bool.and_eq_true] at h
    obtain ⟨⟨h1, h2⟩, h3⟩ := h
    split at h3
    · rename_i u hu
      rw [← eqK_eq h3]
      obtain ⟨v, uu, hm, r, hr⟩ := c.cn x u hu
      exact pe_imp (pe_glob (c.gl h1) hm r (dbg_of h2).1) fun σ H Q q => td_k (fun S => hr S H) q
    · cases h3
  · cases h
theorem star_of : ∀ {e : Expr}, notStar e = true → ∀ (es : List Expr) (env : PySem.Env), starEach (e :: es) env = (false, eval e env) :: starEach es env := by
  intro e h es env
  cases e <;> first
    | rfl
    | cases h
theorem chkE_star {k : Nat} {e : Expr} {e' : E} (h : chkE P Z k e e' = true) : notStar e = true := by
  cases k with
  | zero => cases h
  | succ k =>
    unfold chkE at h
    simp only [Bool.and_eq_true] at h
    exact h.1
theorem nm_star {e : Expr} {i : Nat} (h : isNm Z e i = true) : notStar e = true := by
  obtain ⟨x, p, rfl⟩ := nm_plain h
  rfl
theorem chkA_any : ∀ (k : Nat) (es : List Expr) (es' : Es) (pos : Pos) (env : PySem.Env), chkA P Z k es es' = true → (backTo pos (starEach es env)).any (·.1) = false
  | 0, _, _, _, _, h => by cases h
  | k + 1, [], _, _, _, _ => rfl
  | k + 1, a :: r, .nil, _, _, h => by cases h
  | k + 1, a :: r, .e a' r', pos, env, h => by
    have h' : chkE P Z k a a' = true ∧ chkA P Z k r r' = true := by simpa [chkA] using h
    rw [star_of (chkE_star h'.1)]
    show (false || (backTo pos (starEach r env)).any (·.1)) = false
    rw [chkA_any k r r' pos env h'.2] <;> rfl
  | k + 1, a :: r, .v i r', pos, env, h => by
    have h' : isNm Z a i = true ∧ chkA P Z k r r' = true := by simpa [chkA] using h
    rw [star_of (nm_star h'.1)]
    show (false || (backTo pos (starEach r env)).any (·.1)) = false
    rw [chkA_any k r r' pos env h'.2] <;> rfl
theorem bin_ok (c : Ctx P C M n Z W X) {op : Operator} {o : Op} (h : binO op = some o) : OpR X (binaryOp op) (r2 C o) := by
  cases op <;> simp only [binO, Option.some.injEq, reduceCtorEq] at h
  all_goals subst h
  · exact ok_add
  · exact ok_sub
  · exact ok_mul
  · exact ok_mod
  · exact ok_pow
  · exact ok_fdiv
theorem cmp_ok (c : Ctx P C M n Z W X) {op : CmpOp} {o : Op} (h : cmpO op = some o) : OpR X (compareOp op) (r2 C o) := by
  cases op <;> simp only [cmpO, Option.some.injEq, reduceCtorEq] at h
  all_goals subst h
  · exact ok_eq c.hK c.un
  · exact ok_ne c.hK c.un
  · exact ok_lt
  · exact ok_le
  · exact ok_gt
  · exact ok_ge
  · exact ok_inn c.hK
  · exact ok_notin c.hK
theorem cmp_mark {op : CmpOp} {b : Expr} (h : notSet b = true) : behindInMarks op b = false := by
  cases b <;> first
    | rfl
    | cases h
theorem ord_mark {op : CmpOp} {o : Op} (h : cmpO op = some o) (k : ordO o = true) (b : Expr) : behindInMarks op b = false := by
  cases op <;> first
    | exact nobehind b (by decide) (by decide)
    | (simp only [cmpO, reduceCtorEq] at h; done)
    | (simp only [cmpO, Option.some.injEq] at h; subst h; cases k)
theorem plainIx_of {b : Expr} (h : notSlice b = true) : PlainIx b := by
  intro o i
  cases b <;> first
    | rfl
    | cases h
/-- a reading whose wish may grow -/
def Mono (t : TE) : Prop := ∀ σ H (Q Q' : VK), (∀ x H', Q x H' → Q' x H') → t σ H Q → t σ H Q'
theorem mono_var {i : Nat} : Mono (tVar i) := fun σ H Q Q' k ⟨v, e, q⟩ => ⟨v, e, k v H q⟩
theorem mono_tD {e : E} : Mono (tD C W M e) := fun σ H Q Q' k ⟨S, g, F, G, h⟩ => ⟨S, g, F, G, h.mono k⟩
/-- what a check says of each kind -/
def Sound (P : Prg) (C : RC) (M : Fns) (n k : Nat) : Prop := ∀ (Z : Nm) (W : WX) (X : Cx), Ctx P C M n Z W X →
  (∀ e e', chkE P Z k e e' = true → PE X e (tD C W M e')) ∧ (∀ e e', chkT P Z k e e' = true → PT X e (tB (tD C W M e'))) ∧ (∀ es es', chkA P Z k es es' = true → PA X es (tL C W M es')) ∧
  (∀ op xs p e', chkT P Z k (.BoolOp op xs p) e' = true → PW X (.BoolOp op xs p) (tB (tD C W M e')))
theorem bi_of (c : Ctx P C M n Z W X) {f : Str} (h : f ∈ P.bi) : X.mg f = none := c.bi f h
theorem blt_ok (c : Ctx P C M n Z W X) {f : Str} {k : Nat} {o : Op} {b : Bool} (h : bltO f k = some (o, b)) (hb : (!b || !Z.hot) = true) (hg : Gl X f) (hm : X.mg f = none) (hd : (f == ("__debug__" : Str)) = false) {e : Expr} {es : List Expr} {p pos : Pos} {t : TA}
    (ha : PA X (e :: es) t) (he : starEach (e :: es) X.env = (false, eval e X.env) :: starEach es X.env) (hpl : (backTo pos (starEach es X.env)).any (·.1) = false) : PE X (.Call (.Name f p) (e :: es) [] pos) (tCB (rOp C o) t) := by
  have calm : b = true → X.calm = true := fun z => by
    subst z
    have : Z.hot = false := by simpa using hb
    exact (c.calm this).1
  unfold bltO at h
  split at h
  · rename_i q
    cases h
    obtain ⟨rfl, _⟩ := q
    exact pe_callB (ok_len c.hK) hg hm PySem.boot_len ha (by decide) hd he hpl
  split at h
  · rename_i q
    cases h
    obtain ⟨rfl, _⟩ := q
    exact pe_callB ok_abs hg hm (by decide +kernel) ha (by decide) hd he hpl
  split at h
  · rename_i q
    cases h
    obtain ⟨rfl, _⟩ := q
    exact pe_callTy ok_toInt hg hm (by decide +kernel) ha (by decide) hd he hpl
  split at h
  · rename_i q
    cases h
    obtain ⟨rfl, _⟩ := q
    exact pe_callB (ok_min2 (calm rfl)) hg hm (by decide +kernel) ha (by decide) hd he hpl
  split at h
  · rename_i q
    cases h
    obtain ⟨rfl, _⟩ := q
    exact pe_callB (ok_max2 (calm rfl)) hg hm (by decide +kernel) ha (by decide) hd he hpl
  split at h
  · rename_i q
    cases h
    obtain ⟨rfl, _⟩ := q
    exact pe_callTy (ok_toList c.hK) hg hm (by decide +kernel) ha (by decide) hd he hpl
  split at h
  · rename_i q
    cases h
    obtain ⟨rfl, _⟩ := q
    exact pe_callTy (ok_toTup c.hK) hg hm (by decide +kernel) ha (by decide) hd he hpl
  cases h
theorem bltP_ok (c : Ctx P C M n Z W X) {f : Str} {k : Nat} {o : Op} {b : Bool} (h : bltP f k = some (o, b)) (hb : (!b || !Z.hot) = true) (hg : Gl X f) (hm : X.mg f = none) (hd : (f == ("__debug__" : Str)) = false) {e : Expr} {es : List Expr} {p pos : Pos} {t : TA}
    (ha : PA X (e :: es) t) (he : starEach (e :: es) X.env = (false, eval e X.env) :: starEach es X.env) (hpl : (backTo pos (starEach es X.env)).any (·.1) = false) : PE X (.Call (.Name f p) (e :: es) [] pos) (tCB (rOp C o) t) := by
  have calm : b = true → X.calm = true := fun z => by
    subst z
    have : Z.hot = false := by simpa using hb
    exact (c.calm this).1
  unfold bltP at h
  split at h
  · rename_i q
    cases h
    obtain ⟨rfl, _⟩ := q
    exact pe_callB (ok_sumL c.hK (calm rfl)) hg hm (by decide +kernel) ha (by decide) hd he hpl
  split at h
  · rename_i q
    cases h
    obtain ⟨rfl, _⟩ := q
    exact pe_callB (ok_maxL c.hK (calm rfl) c.un) hg hm (by decide +kernel) ha (by decide) hd he hpl
  split at h
  · rename_i q
    cases h
    obtain ⟨rfl, _⟩ := q
    exact pe_callB (ok_minL c.hK (calm rfl) c.un) hg hm (by decide +kernel) ha (by decide) hd he hpl
  split at h
  · rename_i q
    cases h
    obtain ⟨rfl, _⟩ := q
    exact pe_callB (ok_anyL c.hK (calm rfl)) hg hm (by decide +kernel) ha (by decide) hd he hpl
  split at h
  · rename_i q
    cases h
    obtain ⟨rfl, _⟩ := q
    exact pe_callB (ok_allL c.hK (calm rfl)) hg hm (by decide +kernel) ha (by decide) hd he hpl
  split at h
  · rename_i q
    cases h
    obtain ⟨rfl, _⟩ := q
    exact pe_callB (ok_sortL c.hK c.un) hg hm (by decide +kernel) ha (by decide) hd he hpl
  split at h
  · rename_i q
    cases h
    obtain ⟨rfl, _⟩ := q
    exact pe_callTy ok_str hg hm (by decide +kernel) ha (by decide) hd he hpl
  split at h
  · rename_i q
    cases h
    obtain ⟨rfl, _⟩ := q
    exact pe_callB (ok_min3 (calm rfl)) hg hm (by decide +kernel) ha (by decide) hd he hpl
  split at h
  · rename_i q
    cases h
    obtain ⟨rfl, _⟩ := q
    exact pe_callB (ok_max3 (calm rfl)) hg hm (by decide +kernel) ha (by decide) hd he hpl
  cases h
theorem bltQ_ok (c : Ctx P C M n Z W X) {f : Str} {k : Nat} {o : Op} {b : Bool} (h : bltQ f k = some (o, b)) (hb : (!b || !Z.hot) = true) (hg : Gl X f) (hm : X.mg f = none) (hd : (f == ("__debug__" : Str)) = false) {e : Expr} {es : List Expr} {p pos : Pos} {t : TA}
    (ha : PA X (e :: es) t) (he : starEach (e :: es) X.env = (false, eval e X.env) :: starEach es X.env) (hpl : (backTo pos (starEach es X.env)).any (·.1) = false) : PE X (.Call (.Name f p) (e :: es) [] pos) (tCB (rOp C o) t) := by
  unfold bltQ at h
  cases e0 : bltO f k with
  | some q =>
    rw [e0] at h
    cases h
    exact blt_ok c e0 hb hg hm hd ha he hpl
  | none =>
    rw [e0] at h
    exact bltP_ok c h hb hg hm hd ha he hpl
abbrev Below (P : Prg) (C : RC) (M : Fns) (n K : Nat) : Prop := ∀ k, k < K → Sound P C M n k
theorem opd_nil {k : Nat} {es : Es} (h : chkA P Z k [] es = true) : tL C W M es = tNil := by
  cases k with
  | zero => cases h
  | succ k => cases es with
    | nil => rfl
    | _ => cases h
theorem opd_cons {K k : Nat} (ih : Below P C M n K) (hk : k < K) (c : Ctx P C M n Z W X) {a : Expr} {r : List Expr} {es : Es} (h : chkA P Z k (a :: r) es = true) :
    ∃ ta es' k', PE X a ta ∧ tL C W M es = tCons ta (tL C W M es') ∧ chkA P Z k' r es' = true ∧ k' < K ∧ notStar a = true ∧ Mono ta := by
  cases k with
  | zero => cases h
  | succ k =>
    cases es with
    | nil => cases h
    | e a' r' =>
      have h' : chkE P Z k a a' = true ∧ chkA P Z k r r' = true := by simpa [chkA] using h
      exact ⟨_, r', k, (ih k (by omega) Z W X c).1 _ _ h'.1, rfl, h'.2, by omega, chkE_star h'.1, mono_tD⟩
    | v i r' =>
      have h' : isNm Z a i = true ∧ chkA P Z k r r' = true := by simpa [chkA] using h
      exact ⟨_, r', k, c.nm h'.1, rfl, h'.2, by omega, nm_star h'.1, mono_var⟩
theorem opd1 {K k : Nat} (ih : Below P C M n K) (hk : k < K) (c : Ctx P C M n Z W X) {a : Expr} {es : Es} (h : chkA P Z k [a] es = true) : ∃ ta, PE X a ta ∧ tL C W M es = tCons ta tNil ∧ Mono ta := by
  obtain ⟨ta, es1, k1, p1, e1, h1, l1, _, m1⟩ := opd_cons ih hk c h
  exact ⟨ta, p1, by rw [e1, opd_nil h1], m1⟩
theorem opd2 {K k : Nat} (ih : Below P C M n K) (hk : k < K) (c : Ctx P C M n Z W X) {a b : Expr} {es : Es} (h : chkA P Z k [a, b] es = true) : ∃ ta tb, PE X a ta ∧ PE X b tb ∧ tL C W M es = tCons ta (tCons tb tNil) ∧ Mono ta ∧ Mono tb := by
  obtain ⟨ta, es1, k1, p1, e1, h1, l1, _, m1⟩ := opd_cons ih hk c h
  obtain ⟨tb, p2, e2, m2⟩ := opd1 ih l1 c h1
  exact ⟨ta, tb, p1, p2, by rw [e1, e2], m1, m2⟩
theorem opd3 {K k : Nat} (ih : Below P C M n K) (hk : k < K) (c : Ctx P C M n Z W X) {a b d : Expr} {es : Es} (h : chkA P Z k [a, b, d] es = true) : ∃ ta tb td, PE X a ta ∧ PE X b tb ∧ PE X d td ∧ tL C W M es = tCons ta (tCons tb (tCons td tNil)) ∧ Mono ta ∧ Mono tb ∧ Mono td := by
  obtain ⟨ta, es1, k1, p1, e1, h1, l1, _, m1⟩ := opd_cons ih hk c h
  obtain ⟨tb, td, p2, p3, e2, m2, m3⟩ := opd2 ih l1 c h1
  exact ⟨ta, tb, td, p1, p2, p3, by rw [e1, e2], m1, m2, m3⟩
theorem args_ok {K : Nat} (ih : Below P C M n K) (c : Ctx P C M n Z W X) : ∀ (k : Nat) (es : List Expr) (es' : Es), k ≤ K → chkA P Z k es es' = true → PA X es (tL C W M es')
  | 0, _, _, _, h => by cases h
  | k + 1, [], .nil, _, h => pa_nil
  | k + 1, [], .e _ _, _, h => by cases h
  | k + 1, [], .v _ _, _, h => by cases h
  | k + 1, a :: r, .nil, _, h => by cases h
  | k + 1, a :: r, .e a' r', hk, h => by
    have h' : chkE P Z k a a' = true ∧ chkA P Z k r r' = true := by simpa [chkA] using h
    exact pa_cons ((ih k (by omega) Z W X c).1 _ _ h'.1) (args_ok ih c k r r' (by omega) h'.2) (star_of (chkE_star h'.1) r X.env)
  | k + 1, a :: r, .v i r', hk, h => by
    have h' : isNm Z a i = true ∧ chkA P Z k r r' = true := by simpa [chkA] using h
    exact pa_cons (c.nm h'.1) (args_ok ih c k r r' (by omega) h'.2) (star_of (nm_star h'.1) r X.env)
/-- from the operands to a reading -/
theorem tD_one {o : Op} {es : Es} {ta : TE} (e : tL C W M es = tCons ta tNil) {Q : VK} (h : tD C W M (.op o es) σ H Q) : ta σ H fun x H1 => rOp C o [x] H1 Q := by
  have q := tD_op h
  rw [e] at q
  exact q
theorem tD_two {o : Op} {es : Es} {ta tb : TE} (e : tL C W M es = tCons ta (tCons tb tNil)) {Q : VK} (h : tD C W M (.op o es) σ H Q) : ta σ H fun x H1 => tb σ H1 fun y H2 => rOp C o [x, y] H2 Q := by
  have q := tD_op h
  rw [e] at q
  exact q
theorem tD_three {o : Op} {es : Es} {ta tb td : TE} (e : tL C W M es = tCons ta (tCons tb (tCons td tNil))) {Q : VK} (h : tD C W M (.op o es) σ H Q) : ta σ H fun x H1 => tb σ H1 fun y H2 => td σ H2 fun z H3 => rOp C o [x, y, z] H3 Q := by
  have q := tD_op h
  rw [e] at q
  exact q
theorem cmpN_ok {K k : Nat} (ih : Below P C M n K) (hk : k < K) (c : Ctx P C M n Z W X) {a b : Expr} {op : CmpOp} {o : Op} {es : Es} {pos : Pos} (h : ((decide (cmpO op = some o) && notSet b && chkA P Z k [a, b] es) ||
          (match op, b with
            | .Is, .Constant .none _ _ => decide (o = .isN) && chkA P Z k [a] es
            | .IsNot, .Constant .none _ _ => decide (o = .notN) && chkA P Z k [a] es
            | _, _ => false)) = true) : PE X (.Compare a [op] [b] pos) (tD C W M (.op o es)) ∧ PT X (.Compare a [op] [b] pos) (tB (tD C W M (.op o es))) := by
  rcases (Bool.or_eq_true _ _).mp h with h | h
  · simp only [Bool.and_eq_true, decide_eq_true_eq] at h
    obtain ⟨⟨h1, h2⟩, h3⟩ := h
    obtain ⟨ta, tb, pa, pb, e, _⟩ := opd2 ih hk c h3
    exact ⟨pe_imp (pe_cmpR (cmp_ok c h1) pa pb (cmp_mark h2)) fun σ H Q q => tD_two e q, pt_imp (pt_cmpR (cmp_ok c h1) pa pb (cmp_mark h2)) fun σ H Q q => tD_two e q⟩
  · split at h
    · simp only [Bool.and_eq_true, decide_eq_true_eq] at h
      obtain ⟨rfl, h⟩ := h
      obtain ⟨ta, pa, e, m⟩ := opd1 ih hk c h
      have imp : ∀ σ H Q, tD C W M (.op .isN es) σ H Q → tIsN ta σ H Q := fun σ H Q q => m σ H _ _ (fun x H' z => ok_isN z) (tD_one e q)
      exact ⟨pe_imp (pe_cmp (pc_isN pa)) imp, pt_imp (pt_cmp (pc_isN pa)) fun σ H Q q => imp σ H _ q⟩
    · simp only [Bool.and_eq_true, decide_eq_true_eq] at h
      obtain ⟨rfl, h⟩ := h
      obtain ⟨ta, pa, e, m⟩ := opd1 ih hk c h
      have imp : ∀ σ H Q, tD C W M (.op .notN es) σ H Q → tNotN ta σ H Q := fun σ H Q q => m σ H _ _ (fun x H' z => ok_notN z) (tD_one e q)
      exact ⟨pe_imp (pe_cmp (pc_notN pa)) imp, pt_imp (pt_cmp (pc_notN pa)) fun σ H Q q => imp σ H _ q⟩
    · cases h
end Kv

/-! Kv 9: the check of an expression is sound (comprehensions apart). -/
namespace Kv
open PySem L2
variable {P : Prg} {C : RC} {S S' : Addr → Prop} {H H' : Hp} {X : Cx} {W : WX} {M : Fns} {σ : St} {n : Nat} {Z : Nm}

theorem ta_mono : ∀ (es : Es) (σ : St) (H : Hp) (Q Q' : List V → Hp → Prop), (∀ x H', Q x H' → Q' x H') → tL C W M es σ H Q → tL C W M es σ H Q'
  | .nil, σ, H, Q, Q', k, h => k _ _ h
  | .e a r, σ, H, Q, Q', k, h => mono_tD (e := a) σ H (fun x H1 => tL C W M r σ H1 fun xs H2 => Q (x :: xs) H2) (fun x H1 => tL C W M r σ H1 fun xs H2 => Q' (x :: xs) H2) (fun x H1 q => ta_mono r σ H1 _ _ (fun xs H2 z => k _ _ z) q) h
  | .v i r, σ, H, Q, Q', k, h => mono_var (i := i) σ H (fun x H1 => tL C W M r σ H1 fun xs H2 => Q (x :: xs) H2) (fun x H1 => tL C W M r σ H1 fun xs H2 => Q' (x :: xs) H2) (fun x H1 q => ta_mono r σ H1 _ _ (fun xs H2 z => k _ _ z) q) h
theorem tyNm_of {s : String} (h : tyNm s = true) : s = "int" ∨ s = "bool" ∨ s = "str" ∨ s = "list" ∨ s = "tuple" := by
  unfold tyNm at h
  simp only [Bool.or_eq_true, beq_iff_eq] at h
  rcases h with (((h | h) | h) | h) | h
  · exact .inl h
  · exact .inr (.inl h)
  · exact .inr (.inr (.inl h))
  · exact .inr (.inr (.inr (.inl h)))
  · exact .inr (.inr (.inr (.inr h)))
theorem ty_pe {s : String} (hs : s = "int" ∨ s = "bool" ∨ s = "str" ∨ s = "list" ∨ s = "tuple") {ty : Str} (e : ty = Str.ofString s) (hg : Gl X ty) (hm : X.mg ty = none) (hd : (ty == ("__debug__" : Str)) = false) {p : Pos} : PE X (.Name ty p) (tC (.ty s)) := by
  subst e
  rcases hs with h | h | h | h | h <;> subst h
  · exact pe_bltn hg hm (by decide +kernel) rfl (by decide) hd
  · exact pe_bltn hg hm (by decide +kernel) rfl (by decide) hd
  · exact pe_bltn hg hm (by decide +kernel) rfl (by decide) hd
  · exact pe_bltn hg hm (by decide +kernel) rfl (by decide) hd
  · exact pe_bltn hg hm (by decide +kernel) rfl (by decide) hd
theorem po_e {e : Expr} {t : TE} (h : PE X e t) : PO X (some e) (tPart t) := po_some h
theorem rpb_same {S : Addr → Prop} {H H' : Hp} (k : Same H H') : ∀ (ts : List T) (vs : List V), RpB C S H ts vs → RpB C S H' ts vs
  | [], vs, h => h
  | t :: ts, vs, ⟨v, ws, e, ⟨F, r⟩, h⟩ => ⟨v, ws, e, ⟨F, Rp.stay (fun _ z => z) t v F (fun b o e _ => k b o e) (fun b hb => (Rp.own t v F r b hb).1) r⟩, rpb_same k ts ws h⟩
/-- a row of classes -/
def tCls (C : RC) : List Nat → TA
  | [] => tNil
  | k :: cs => tCons (tC (.ref (C.cad k))) (tCls C cs)
theorem tCls_ok : ∀ (cs : List Nat) (σ : St) (H : Hp) (Q : List V → Hp → Prop), Q (cs.map fun k => V.ref (C.cad k)) H → tCls C cs σ H Q
  | [], σ, H, Q, h => h
  | k :: cs, σ, H, Q, h => tCls_ok cs σ H _ h
theorem clsNs_ok (c : Ctx P C M n Z W X) : ∀ (ts : List Expr) (cs : List Nat), clsNs P Z ts cs = true → PA X ts (tCls C cs) ∧ ∀ k ∈ cs, k < 16
  | [], [], _ => ⟨pa_nil, fun k hk => nomatch hk⟩
  | [], _ :: _, h => by cases h
  | e :: ts, [], h => by cases e <;> cases h
  | e :: ts, k :: cs, h => by
    cases e <;> first | (cases h; done) | skip
    rename_i x p
    simp only [clsNs, Bool.and_eq_true, decide_eq_true_eq] at h
    obtain ⟨⟨⟨h1, h2⟩, h3⟩, h4⟩ := h
    obtain ⟨q1, q2⟩ := clsNs_ok c ts cs h4
    obtain ⟨hm, hl⟩ := c.cc x k h3
    exact ⟨pa_cons (pe_glob (c.gl h1) hm rfl (dbg_of h2).1) q1 rfl, fun j hj => (List.mem_cons.mp hj).elim (fun e => e ▸ hl) (q2 j)⟩
/-- list(range(..)) -/
theorem lrange_fin {i j : Int} {Q : VK} {x y : V} {xs : List V} (hx : xs = [x, y] ∧ x = .int i ∧ y = .int j ∨ xs = [y] ∧ i = 0 ∧ y = .int j) (h : rOp C .lrange xs H Q) : RgOk i j ∧ ∀ q, H q = none → Q (.ref q) (upd H q (.lst (rgV i j))) := by
  obtain ⟨S, ts, t, hr, hf, hd, ho, hq⟩ := h
  have fin : ∀ (i j : Int), RpL C S H ((List.range (j - i).toNat).map fun (k : Nat) => T.int (i + (k : Int))) (rgV i j) [] := fun i j => rpl_ints _ _
  replace ho : lrangeS ts = some t := ho
  unfold lrangeS at ho
  split at ho
  · split at ho
    · rename_i hc
      cases ho
      obtain ⟨x', F, e, ra⟩ := hr.inv1
      rcases hx with ⟨ex, _⟩ | ⟨ex, rfl, rfl⟩
      · rw [ex] at e; cases e
      · rw [ex] at e
        cases e
        cases ra.1
        refine ⟨⟨by decide, by decide, hc.1, hc.2.1, by have := hc.2.2; omega⟩, fun q hq' => ?_⟩
        obtain ⟨z1, z2, z3, z4⟩ := rp_new (fin 0 _) hd hq'
        exact hq _ _ _ z1 z2 z3 z4
    · cases ho
  · split at ho
    · rename_i hc
      cases ho
      obtain ⟨x', y', F, F', e, ra, rb⟩ := hr.inv2
      rcases hx with ⟨ex, rfl, rfl⟩ | ⟨ex, _⟩
      · rw [ex] at e
        cases e
        cases ra.1
        cases rb.1
        refine ⟨⟨hc.1.1, hc.1.2, hc.2.1.1, hc.2.1.2, hc.2.2⟩, fun q hq' => ?_⟩
        obtain ⟨z1, z2, z3, z4⟩ := rp_new (fin _ _) hd hq'
        exact hq _ _ _ z1 z2 z3 z4
      · rw [ex] at e; cases e
    · cases ho
  · cases ho
where
  rpl_ints {S : Addr → Prop} {H : Hp} (f : Nat → Int) : ∀ (l : List Nat), RpL C S H (l.map fun k => T.int (f k)) (l.map fun k => V.int (f k)) []
    | [] => ⟨rfl, rfl⟩
    | k :: l => ⟨_, _, [], [], rfl, rfl, ⟨rfl, rfl⟩, rpl_ints f l⟩
theorem lrange_int {xs : List V} {Q : VK} (h : rOp C .lrange xs H Q) : ∀ x ∈ xs, ∃ i, x = .int i := by
  obtain ⟨S, ts, t, hr, hf, hd, ho, hq⟩ := h
  replace ho : lrangeS ts = some t := ho
  unfold lrangeS at ho
  split at ho
  · obtain ⟨x', F, e, ra⟩ := hr.inv1
    intro x hx
    rw [e] at hx
    rw [List.mem_singleton.mp hx]
    exact ⟨_, ra.1⟩
  · obtain ⟨x', y', F, F', e, ra, rb⟩ := hr.inv2
    intro x hx
    rw [e] at hx
    simp only [List.mem_cons, List.not_mem_nil, or_false] at hx
    rcases hx with e | e
    · rw [e]; exact ⟨_, ra.1⟩
    · rw [e]; exact ⟨_, rb.1⟩
  · cases ho
theorem lrange_pe {K : Nat} (ih : Below P C M n (K + 1)) (c : Ctx P C M n Z W X) (hh : Z.hot = false) (hgl : Gl X "list") (hm : X.mg "list" = none) (hgr : Gl X "range") (hmr : X.mg "range" = none) {as : List Expr} {es : Es} {p pos rp rpos : Pos} (hl : as.length = 1 ∨ as.length = 2) (ha : chkA P Z K as es = true) :
    PE X (.Call (.Name "list" p) [.Call (.Name "range" rp) as [] rpos] [] pos) (tD C W M (.op .lrange es)) := by
  have hk : K < K + 1 := Nat.lt_succ_self _
  match as, hl, ha with
  | [a], _, ha =>
    obtain ⟨ta, es', k', pa, ee, ha2, _, ns, m⟩ := opd_cons ih hk c ha
    refine pe_imp (pe_listRg (c.calm hh).1 hgl hm (prg_1 hgr hmr pa (star_of ns _ _))) fun σ H Q q => ?_
    have q' := tD_op q
    rw [ee, opd_nil ha2] at q'
    refine m σ H _ _ (fun x H1 z => ?_) q'
    replace z : rOp C .lrange [x] H1 Q := z
    obtain ⟨j, rfl⟩ := lrange_int z x (by simp)
    exact ⟨j, rfl, lrange_fin (x := .non) (.inr ⟨rfl, rfl, rfl⟩) z⟩
  | [a, b], _, ha =>
    obtain ⟨ta, es', k', pa, ee, ha2, l2, ns, m⟩ := opd_cons ih hk c ha
    obtain ⟨tb, es2, k2, pb, ee2, ha3, _, ns2, m2⟩ := opd_cons ih l2 c ha2
    refine pe_imp (pe_listRg (c.calm hh).1 hgl hm (prg_2 hgr hmr pa pb (star_of ns _ _) (star_of ns2 _ _) (by rw [star_of ns2] <;> rfl))) fun σ H Q q => ?_
    have q' := tD_op q
    rw [ee, ee2, opd_nil ha3] at q'
    refine m σ H _ _ (fun x H1 z => m2 σ H1 _ _ (fun y H2 z => ?_) z) q'
    replace z : rOp C .lrange [x, y] H2 Q := z
    obtain ⟨i, rfl⟩ := lrange_int z x (by simp)
    obtain ⟨j, rfl⟩ := lrange_int z y (by simp)
    exact ⟨i, j, rfl, rfl, lrange_fin (.inl ⟨rfl, rfl, rfl⟩) z⟩
  | [], hl, _ => rcases hl with h | h <;> cases h
  | _ :: _ :: _ :: _, hl, _ => rcases hl with h | h <;> cases h
theorem noSl_of {b : Expr} (h : notSlice b = true) : NoSl b := by
  intro o i
  cases b <;> first
    | rfl
    | cases h
theorem Ctx.kc (c : Ctx P C M n Z W X) {e : Expr} {s : Sc} (h : chkK P Z e s.t = true) : PE X e (tC s.v) := by
  unfold chkK at h
  split at h
  · have h2 := eqK_eq h
    cases s with
    | i k => cases h2; exact pe_int
    | s z => cases h2
  · have h2 := eqK_eq h
    cases s with
    | i k => cases h2
    | s z => cases h2; exact pe_str
  · have h2 := eqK_eq h
    cases s <;> cases h2
  · have h2 := eqK_eq h
    cases s <;> cases h2
  · rename_i x p
    simp only [Bool.and_eq_true] at h
    obtain ⟨⟨h1, h2⟩, h3⟩ := h
    split at h3
    · rename_i u hu
      have h4 := eqK_eq h3
      obtain ⟨v, uu, hm, r, hr⟩ := c.cn x u hu
      have hv : v = s.v := by
        have r0 := hr (fun _ => False) (fun _ => none)
        rw [h4] at r0
        cases s <;> exact r0.1
      rw [← hv]
      exact pe_glob (c.gl h1) hm r (dbg_of h2).1
    · cases h3
  · cases h
theorem dsp_pps (c : Ctx P C M n Z W X) (pos : Pos) : ∀ (ks : List (Option Expr)) (vs : List Expr) (kvs : List (Str × Sc)), dspOk P Z ks vs kvs = true →
    PPs X pos ks vs (kvs.map fun e => (tC (.str e.1), tC e.2.v)) ∧ ks.all (·.isSome) = true ∧ ks.length = vs.length ∧ ks.length = kvs.length
  | [], [], [], _ => ⟨pps_nil, rfl, rfl, rfl⟩
  | some k :: ks, v :: vs, (a, s) :: r, h => by
    have h' : (chkK P Z k (.str a) = true ∧ chkK P Z v s.t = true) ∧ dspOk P Z ks vs r = true := by simpa [dspOk] using h
    obtain ⟨p, h1, h2, h3⟩ := dsp_pps c pos ks vs r h'.2
    exact ⟨pps_cons (c.kc (s := .s a) h'.1.1) (c.kc h'.1.2) p, by simpa using h1, by rw [List.length_cons, List.length_cons, h2], by rw [List.length_cons, List.length_cons, h3]⟩
  | [], [], _ :: _, h => by cases h
  | [], _ :: _, _, h => by cases h
  | none :: _, _, _, h => by cases h
  | some _ :: _, [], _, h => by cases h
  | some _ :: _, _ :: _, [], h => by cases h
theorem tPairs_k : ∀ (kvs : List (Str × Sc)) (σ : St) (H : Hp) (Q : List (V × V) → Hp → Prop), Q (kvs.map fun e => (.str e.1, e.2.v)) H → tPairs (kvs.map fun e => (tC (.str e.1), tC e.2.v)) σ H Q
  | [], σ, H, Q, q => q
  | (a, s) :: r, σ, H, Q, q => tPairs_k r σ H _ q
theorem const_str {k : Nat} {z : Str} {p : Pos} {q : Nat} {a' : E} (h : chkE P Z k (.Constant (.str z) q p) a' = true) : a' = .k (.str z) := by
  cases k with
  | zero => cases h
  | succ k =>
    unfold chkE at h
    cases a' with
    | k t =>
      have h' : chkK P Z (.Constant (.str z) q p) t = true := by simpa using (Bool.and_eq_true_iff.mp h).2
      have := eqK_eq (show eqK (.str z) t = true from h')
      rw [this]
    | _ => simp [isNm] at h
theorem base_of {a : Expr} (h : okBase a = true) (nm : Str) (env : PySem.Env) : attributeBase a nm env (eval a env) = eval a env := by
  match a, h with
  | .Name _ _, _ => rfl
  | .Subscript _ _ _, _ => rfl
  | .Call f (_ :: _) _ _, _ => cases f <;> rfl
theorem few_ok {e : Expr} (h : notStar e = true) (pos : Pos) (env : PySem.Env) : ((backTo pos (starEach [e] env)).all (fun x => !x.1) && (backToKw pos (keywordEach [] env)).all (fun x => x.1.isSome)
      && decide (([e] : List Expr).length + ([] : List Keyword).length + (if ([] : List Keyword).isEmpty then 0 else 1) < 30)) = true := by
  rw [star_of h] <;> rfl
theorem nm_base {a : Expr} {i : Nat} (h : isNm Z a i = true) (f : Str) (env : PySem.Env) : attributeBase a f env (eval a env) = eval a env := by
  obtain ⟨x, p, rfl⟩ := nm_plain h
  rfl
theorem kw_ok {K : Nat} (ih : Below P C M n K) (c : Ctx P C M n Z W X) : ∀ (k : Nat) (kws : List Keyword) (es : Es), k ≤ K → chkA P Z k (kws.map (·.value)) es = true → PK X kws (tL C W M es)
  | 0, _, _, _, h => by cases h
  | k + 1, [], .nil, _, h => pk_nil
  | k + 1, [], .e _ _, _, h => by cases h
  | k + 1, [], .v _ _, _, h => by cases h
  | k + 1, a :: r, .nil, _, h => by cases h
  | k + 1, ⟨nm, a, kp⟩ :: r, .e a' r', hk, h => by
    have h' : chkE P Z k a a' = true ∧ chkA P Z k (r.map (·.value)) r' = true := by simpa [chkA] using h
    exact pk_cons ((ih k (by omega) Z W X c).1 _ _ h'.1) (kw_ok ih c k r r' (by omega) h'.2)
  | k + 1, ⟨nm, a, kp⟩ :: r, .v i r', hk, h => by
    have h' : isNm Z a i = true ∧ chkA P Z k (r.map (·.value)) r' = true := by simpa [chkA] using h
    exact pk_cons (c.nm h'.1) (kw_ok ih c k r r' (by omega) h'.2)
theorem tL_lenK : ∀ (es : Es) (σ : St) (H : Hp) (Q : List V → Hp → Prop), tL C W M es σ H Q → tL C W M es σ H fun vs H' => Q vs H' ∧ vs.length = es.len
  | .nil, σ, H, Q, h => ⟨h, rfl⟩
  | .e a r, σ, H, Q, h => mono_tD (e := a) σ H (fun x H1 => tL C W M r σ H1 fun xs H2 => Q (x :: xs) H2) (fun x H1 => tL C W M r σ H1 fun xs H2 => Q (x :: xs) H2 ∧ (x :: xs).length = (Es.e a r).len)
      (fun x H1 q => ta_mono r σ H1 _ _ (fun xs H2 z => ⟨z.1, by show xs.length + 1 = r.len + 1; rw [z.2]⟩) (tL_lenK r σ H1 _ q)) h
  | .v i r, σ, H, Q, h => mono_var (i := i) σ H (fun x H1 => tL C W M r σ H1 fun xs H2 => Q (x :: xs) H2) (fun x H1 => tL C W M r σ H1 fun xs H2 => Q (x :: xs) H2 ∧ (x :: xs).length = (Es.v i r).len)
      (fun x H1 q => ta_mono r σ H1 _ _ (fun xs H2 z => ⟨z.1, by show xs.length + 1 = r.len + 1; rw [z.2]⟩) (tL_lenK r σ H1 _ q)) h
theorem chkA_lenK : ∀ (k : Nat) (as : List Expr) (es : Es), chkA P Z k as es = true → es.len = as.length
  | 0, as, es, h => by cases h
  | k + 1, [], .nil, h => rfl
  | k + 1, [], .e _ _, h => by cases h
  | k + 1, [], .v _ _, h => by cases h
  | k + 1, a :: r, .nil, h => by cases h
  | k + 1, a :: r, .e a' r', h => by
    have h' : chkE P Z k a a' = true ∧ chkA P Z k r r' = true := by simpa [chkA] using h
    show r'.len + 1 = r.length + 1
    rw [chkA_lenK k r r' h'.2]
  | k + 1, a :: r, .v i r', h => by
    have h' : isNm Z a i = true ∧ chkA P Z k r r' = true := by simpa [chkA] using h
    show r'.len + 1 = r.length + 1
    rw [chkA_lenK k r r' h'.2]
theorem tL_split : ∀ (n : Nat) (es : Es) (σ : St) (H : Hp) (R : List V → Hp → Prop), tL C W M es σ H R → tL C W M (es.take n) σ H fun vs H1 => tL C W M (es.drop n) σ H1 fun zs H2 => R (vs ++ zs) H2
  | 0, .nil, σ, H, R, h => h
  | 0, .e _ _, σ, H, R, h => h
  | 0, .v _ _, σ, H, R, h => h
  | n + 1, .nil, σ, H, R, h => h
  | n + 1, .e a r, σ, H, R, h => mono_tD σ H _ _ (fun x H1 z => tL_split n r σ H1 (fun xs H2 => R (x :: xs) H2) z) h
  | n + 1, .v i r, σ, H, R, h => mono_var σ H _ _ (fun x H1 z => tL_split n r σ H1 (fun xs H2 => R (x :: xs) H2) z) h
def noComp : E → Bool
  | .comp _ _ _ _ => false
  | _ => true
theorem sound_op {K : Nat} (ih : Below P C M n (K + 1)) (c : Ctx P C M n Z W X) {e : Expr} {o : Op} {es : Es} (h : chkE P Z (K + 1) e (.op o es) = true) : PE X e (tD C W M (.op o es)) := by
  unfold chkE at h
  simp only [Bool.and_eq_true] at h
  obtain ⟨hst, h⟩ := h
  have hk : K < K + 1 := Nat.lt_succ_self _
  split at h
  · -- BinOp
    simp only [Bool.and_eq_true, decide_eq_true_eq] at h
    obtain ⟨ta, tb, pa, pb, e, _⟩ := opd2 ih hk c h.2
    exact pe_imp (pe_op (bin_ok c h.1) pa pb) fun σ H Q q => tD_two e q
  · -- USub
    simp only [Bool.and_eq_true, decide_eq_true_eq] at h
    obtain ⟨rfl, h⟩ := h
    obtain ⟨ta, pa, e, _⟩ := opd1 ih hk c h
    exact pe_imp (pe_un ok_neg pa) fun σ H Q q => tD_one e q
  · -- Compare
    exact (cmpN_ok ih hk c h).1
  · simp only [Bool.and_eq_true, decide_eq_true_eq] at h
    obtain ⟨rfl, h⟩ := h
    obtain ⟨ta, pa, e, m⟩ := opd1 ih hk c h
    exact pe_imp (pe_slice (SlR.or sl_list sl_str) pa po_none po_none) fun σ H Q q => m σ H _ _ (fun x H1 z => ok_slice0 z) (tD_one e q)
  · simp only [Bool.and_eq_true, decide_eq_true_eq] at h
    obtain ⟨rfl, h⟩ := h
    obtain ⟨ta, tb, pa, pb, e, m, m2⟩ := opd2 ih hk c h
    exact pe_imp (pe_slice (SlR.or sl_list sl_str) pa (po_some pb) po_none) fun σ H Q q => m σ H _ _ (fun x H1 z => m2 σ H1 _ _ (fun y H2 z => by
      obtain ⟨i, ei, r⟩ := ok_sliceL z
      exact ⟨i, ei, r⟩) z) (tD_two e q)
  · simp only [Bool.and_eq_true, decide_eq_true_eq] at h
    obtain ⟨rfl, h⟩ := h
    obtain ⟨ta, tb, pa, pb, e, m, m2⟩ := opd2 ih hk c h
    exact pe_imp (pe_slice (SlR.or sl_list sl_str) pa po_none (po_some pb)) fun σ H Q q => m σ H _ _ (fun x H1 z => m2 σ H1 _ _ (fun y H2 z => by
      obtain ⟨i, ei, r⟩ := ok_sliceH z
      exact ⟨i, ei, r⟩) z) (tD_two e q)
  · simp only [Bool.and_eq_true, Bool.or_eq_true, decide_eq_true_eq] at h
    obtain ⟨⟨hs, ho⟩, h⟩ := h
    rcases ho with rfl | rfl
    · obtain ⟨ta, tb, pa, pb, e, _⟩ := opd2 ih hk c h
      exact pe_imp (pe_ix (ok_idx c.hK) pa pb (plainIx_of hs)) fun σ H Q q => tD_two e q
    · obtain ⟨ta, tb, pa, pb, e, m, m2⟩ := opd2 ih hk c h
      exact pe_imp (pe_dget (by have := c.un; omega) pa pb (noSl_of hs)) fun σ H Q q => m σ H _ _ (fun x H1 z => m2 σ H1 _ _ (fun y H2 z => ok_dget z) z) (tD_two e q)
  · -- Call
    rename_i f p args pos
    simp only [Bool.and_eq_true, decide_eq_true_eq] at h
    obtain ⟨⟨⟨hg, hd⟩, hbi⟩, h⟩ := h
    have hgl := c.gl hg
    have hm := c.bi f hbi
    have hdb := (dbg_of hd).1
    rcases (Bool.or_eq_true _ _).mp h with h | h
    · split at h
      · rename_i o' b hb
        simp only [Bool.and_eq_true, decide_eq_true_eq] at h
        obtain ⟨⟨rfl, hh⟩, ha⟩ := h
        cases args with
        | nil =>
          have : bltQ f 0 = some (o', b) := hb
          simp [bltQ, bltO, bltP] at this
        | cons a r =>
          obtain ⟨_, es', k', _, _, ha2, _, ns, _⟩ := opd_cons ih hk c ha
          exact pe_imp (bltQ_ok c hb hh hgl hm hdb (args_ok ih c K _ _ (Nat.le_of_lt hk) ha) (star_of ns r X.env) (chkA_any k' r es' pos X.env ha2)) fun σ H Q q => tD_op q
      · cases h
    · split at h
      · rename_i a ty tp s _
        simp only [Bool.and_eq_true, decide_eq_true_eq] at h
        obtain ⟨⟨⟨⟨⟨⟨hf, hs⟩, hty⟩, hgt⟩, hdt⟩, hbt⟩, ha⟩ := h
        subst hf
        obtain ⟨ta, es', k', pa, ee, ha2, _, ns, m⟩ := opd_cons ih hk c ha
        have hs' := tyNm_of hs
        have pty : PE X (.Name ty tp) (tC (.ty s)) := ty_pe hs' hty (c.gl hgt) (c.bi ty hbt) (dbg_of hdt).1
        have pargs : PA X [a, .Name ty tp] (tCons ta (tCons (tC (.ty s)) tNil)) := pa_cons pa (pa_cons pty pa_nil) (star_of ns _ _)
        refine pe_imp (pe_callB (ok_isT c.hK hs') hgl hm (by decide +kernel) pargs (by decide) hdb (star_of ns _ _) rfl) fun σ H Q q => ?_
        have q' := tD_op q
        rw [ee, opd_nil ha2] at q'
        exact m σ H _ _ (fun x H1 z => ⟨x, rfl, z⟩) q'
      · rename_i a ty tp cc _
        simp only [Bool.and_eq_true, decide_eq_true_eq] at h
        obtain ⟨⟨⟨⟨⟨hf, hh⟩, hgt⟩, hdt⟩, hor⟩, ha⟩ := h
        subst hf
        obtain ⟨ea, ec, ed, eo, hi⟩ := c.ho hh
        obtain ⟨ta, es', k', pa, ee, ha2, _, ns, m⟩ := opd_cons ih hk c ha
        rcases (Bool.or_eq_true _ _).mp hor with hor | hor
        · obtain ⟨hmt, hlt⟩ := c.cc ty cc (of_decide_eq_true hor)
          have pty : PE X (.Name ty tp) (tC (.ref (C.cad cc))) := pe_glob (c.gl hgt) hmt rfl (dbg_of hdt).1
          have pargs : PA X [a, .Name ty tp] (tCons ta (tCons (tC (.ref (C.cad cc))) tNil)) := pa_cons pa (pa_cons pty pa_nil) (star_of ns _ _)
          refine pe_imp (pe_callB (ok_isE1 c.hK c.cl hi hlt) hgl hm (by decide +kernel) pargs (by decide) hdb (star_of ns _ _) rfl) fun σ H Q q => ?_
          have q' := tD_op q
          rw [ee, opd_nil ha2] at q'
          exact m σ H _ _ (fun x H1 z => ⟨x, rfl, z⟩) q'
        · simp only [Bool.and_eq_true, decide_eq_true_eq] at hor
          obtain ⟨⟨h1, h2⟩, h3⟩ := hor
          subst h1 h2
          have pty : PE X (.Name ("ValueError" : Str) tp) (tC (.ty "ValueError")) := pe_bltn (c.gl hgt) (c.bi _ h3) (by decide +kernel) rfl (by decide) (dbg_of hdt).1
          have pargs : PA X [a, .Name ("ValueError" : Str) tp] (tCons ta (tCons (tC (.ty "ValueError")) tNil)) := pa_cons pa (pa_cons pty pa_nil) (star_of ns _ _)
          refine pe_imp (pe_callB (ok_isEV c.hK c.cl hi) hgl hm (by decide +kernel) pargs (by decide) hdb (star_of ns _ _) rfl) fun σ H Q q => ?_
          have q' := tD_op q
          rw [ee, opd_nil ha2] at q'
          exact m σ H _ _ (fun x H1 z => ⟨x, rfl, z⟩) q'
      · rename_i a ts u v cs _
        simp only [Bool.and_eq_true, decide_eq_true_eq] at h
        obtain ⟨⟨⟨⟨hf, hh⟩, hle⟩, hcl⟩, ha⟩ := h
        subst hf
        obtain ⟨ea, ec, ed, eo, hi⟩ := c.ho hh
        obtain ⟨ta, es', k', pa, ee, ha2, _, ns, m⟩ := opd_cons ih hk c ha
        obtain ⟨pts, hlt⟩ := clsNs_ok c ts cs hcl
        have pargs : PA X [a, .Tuple ts u v] (tCons ta (tCons (tTup (tCls C cs)) tNil)) := pa_cons pa (pa_cons (pe_tup pts) pa_nil) (star_of ns _ _)
        refine pe_imp (pe_callB (ok_isET c.hK c.cl hi hlt) hgl hm (by decide +kernel) pargs (by decide) hdb (star_of ns _ _) rfl) fun σ H Q q => ?_
        have q' := tD_op q
        rw [ee, opd_nil ha2] at q'
        refine m σ H _ _ (fun x H1 z => ?_) q'
        refine tCls_ok cs σ H1 _ ⟨by rw [List.length_map, sizeLine_eq]; omega, fun p hp => ⟨x, p, rfl, upd_same, ?_⟩⟩
        obtain ⟨S, ts, t, hr, hf, hd, ho, hq⟩ := z
        have kk : Same H1 (upd H1 p (.tup (cs.map fun k => V.ref (C.cad k)))) := fun b o e => by rw [upd_ne (ne_of_none e hp)]; exact e
        exact ⟨S, ts, t, rpb_same kk _ _ hr, hf, fun a ha => by
          obtain ⟨ys, e⟩ := hd a ha
          exact ⟨ys, kk a _ e⟩, ho, fun x H' F1 k1 fr nd rx => hq x H' F1 (fun b o e => k1 b o (kk b o e)) (fun b hb => kk.free (fr b hb)) nd rx⟩
      · rename_i r rp as' rpos _
        simp only [Bool.and_eq_true, Bool.or_eq_true, Bool.not_eq_true', decide_eq_true_eq] at h
        obtain ⟨⟨⟨⟨⟨⟨hf, hh⟩, hr⟩, hgr⟩, hbr⟩, hl⟩, ha⟩ := h
        subst hf hr
        exact lrange_pe ih c hh hgl hm (c.gl hgr) (c.bi _ hbr) hl ha
      · cases h
  · rename_i z zp zk mm mp b cp
    simp only [Bool.and_eq_true, decide_eq_true_eq] at h
    obtain ⟨⟨⟨rfl, rfl⟩, hl⟩, ha⟩ := h
    cases es with
    | nil => cases K <;> simp [chkA] at ha
    | v i r => cases K <;> simp [chkA, isNm] at ha
    | e a' r' =>
      cases K with
      | zero => cases ha
      | succ K' =>
        have h' : chkE P Z K' (.Constant (.str z) zp zk) a' = true ∧ chkA P Z K' [b] r' = true := by simpa [chkA] using ha
        have ea := const_str h'.1
        subst ea
        obtain ⟨tb, es', k', pb, eb0, hb2, _, nsb, mb⟩ := opd_cons ih (by omega) c h'.2
        have eb : tL C W M r' = tCons tb tNil := by rw [eb0, opd_nil hb2]
        refine pe_imp (pe_join pe_str pb (star_of nsb [] X.env) rfl hl) fun σ H Q q => ?_
        have q' := tD_op q
        have e2 : tL C W M (.e (.k (.str z)) r') = tCons (tD C W M (.k (.str z))) (tL C W M r') := rfl
        rw [e2, eb] at q'
        have q2 := td_k (t := .str z) (v := .str z) (fun S => ⟨rfl, rfl⟩) q'
        exact ⟨⟨z, rfl⟩, mb σ H _ _ (fun y H2 w => ok_join c.hK w) q2⟩
  · rename_i f p a k d kp pos
    simp only [Bool.and_eq_true, Bool.not_eq_true', decide_eq_true_eq] at h
    obtain ⟨⟨⟨⟨⟨⟨hg, hd⟩, hbi⟩, hh⟩, ho⟩, ha⟩, hdd⟩ := h
    have hgl := c.gl hg
    have hm := c.bi f hbi
    have hdb := (dbg_of hd).1
    have hcalm := (c.calm hh).1
    obtain ⟨_, es', k', _, _, ha2, _, ns, _⟩ := opd_cons ih hk c ha
    have pa := args_ok ih c K _ _ (Nat.le_of_lt hk) ha
    have pk : PK X [⟨some k, d, kp⟩] (tL C W M (es.drop 1)) := kw_ok ih c K [⟨some k, d, kp⟩] (es.drop 1) (Nat.le_of_lt hk) hdd
    have st : backTo pos (starEach [a] X.env) = (false, eval a X.env) :: backTo pos (starEach [] X.env) := by rw [star_of ns [] X.env]; rfl
    have st2 : (backTo pos (starEach [a] X.env)).any (·.1) = false := by rw [star_of ns [] X.env]; rfl
    have hl1 := chkA_lenK _ _ _ ha
    have end_ : ∀ {r : List V → List V → Hp → VK → Prop} σ H Q, tD C W M (.op o es) σ H Q → (∀ xs zs H2, xs.length = 1 → rOp C o (xs ++ zs) H2 Q → r xs zs H2 Q) → tCKw r (tL C W M (es.take 1)) (tL C W M (es.drop 1)) σ H Q := fun σ H Q q kk => by
      have q' := tL_split 1 es σ H _ (tD_op q)
      have q2 := tL_lenK _ σ H _ q'
      exact ta_mono _ σ H _ _ (fun vs H1 z => ta_mono _ σ H1 _ _ (fun zs H2 w => kk vs zs H2 (by rw [z.2, hl1]; rfl) w) z.1) q2
    unfold bltK at ho
    split at ho
    · rename_i e
      obtain ⟨rfl, rfl⟩ := e
      cases ho
      exact pe_imp (pe_callBK (ok_maxDf c.hK hcalm c.un) hgl hm (by decide +kernel) pa pk (by decide) hdb st st2) fun σ H Q q => end_ σ H Q q fun xs zs H2 h1 h2 => ⟨h1, h2⟩
    split at ho
    · rename_i e
      obtain ⟨rfl, rfl⟩ := e
      cases ho
      exact pe_imp (pe_callBK (ok_minDf c.hK hcalm c.un) hgl hm (by decide +kernel) pa pk (by decide) hdb st st2) fun σ H Q q => end_ σ H Q q fun xs zs H2 h1 h2 => ⟨h1, h2⟩
    split at ho
    · rename_i e
      obtain ⟨rfl, rfl⟩ := e
      cases ho
      exact pe_imp (pe_callBK (ok_sortR c.hK c.un) hgl hm (by decide +kernel) pa pk (by decide) hdb st st2) fun σ H Q q => end_ σ H Q q fun xs zs H2 h1 h2 => ⟨h1, h2⟩
    cases ho
  · rename_i a m mp as cp _
    simp only [Bool.and_eq_true, decide_eq_true_eq] at h
    obtain ⟨⟨⟨hb, hl⟩, hm⟩, ha⟩ := h
    have hbase : ∀ nm, attributeBase a nm X.env (eval a X.env) = eval a X.env := fun nm => base_of hb nm X.env
    · obtain ⟨ta, pa, ee, mo⟩ := opd1 ih hk c ha
      unfold mthO at hm
      split at hm
      · split at hm
        · rename_i e
          cases hm
          subst e
          refine pe_imp (pe_upper pa (hbase _) hl) fun σ H Q q => ?_
          exact mo σ H _ _ (fun y H2 w => ok_upper w) (tD_one ee q)
        · split at hm
          · rename_i e
            cases hm
            subst e
            refine pe_imp (pe_words pa (hbase _) hl) fun σ H Q q => ?_
            exact mo σ H _ _ (fun y H2 w => ok_words w) (tD_one ee q)
          · cases hm
      · split at hm
        · rename_i e
          cases hm
          subst e
          refine pe_imp (pe_split pa pe_str rfl (hbase _) hl) fun σ H Q q => ?_
          exact mo σ H _ _ (fun y H2 w => ok_split w) (tD_one ee q)
        · cases hm
      · split at hm
        · rename_i e
          cases hm
          subst e
          refine pe_imp (pe_bm PySem.F.plainAttrs_list PySem.F.slot_list_count PySem.F.type_list_count mt_lcountB pa (pa_cons pe_bl pa_nil rfl) (hbase _) rfl hl rfl rfl) fun σ H Q q => ?_
          refine mo σ H _ _ (fun y H2 w => ?_) (tD_one ee q)
          obtain ⟨p, bs, rfl, hs, hq⟩ := ok_cntT w
          rw [c.hK] at hs
          exact ⟨.inl ⟨rfl, _, hs⟩, p, bs, rfl, rfl, hs, hq⟩
        · cases hm
      · cases hm
  · simp only [Bool.and_eq_true, decide_eq_true_eq] at h
    obtain ⟨⟨⟨hh, rfl⟩, hn⟩, ha⟩ := h
    obtain ⟨ea, ec, ed, eo, hi⟩ := c.ho hh
    obtain ⟨ta, pa, ee, m⟩ := opd1 ih hk c ha
    refine pe_imp (pe_fld c.hK c.cl hi pa ?_) fun σ H Q q => tD_one ee q
    unfold isName at hn
    split at hn
    · rfl
    · cases hn
  · rename_i ks vs pos
    split at h
    · rename_i kvs
      simp only [Bool.and_eq_true, decide_eq_true_eq] at h
      obtain ⟨⟨⟨h0, h15⟩, hd⟩, ha⟩ := h
      obtain ⟨pp, ha1, ha2, ha3⟩ := dsp_pps c pos ks vs kvs hd
      refine pe_imp (pe_disp pp ha1 ha2 (fun z => by rw [z] at ha3; simp at ha3; omega) (by rw [ha3]; exact h15)) fun σ H Q q => ?_
      have q' := tD_op q
      rw [opd_nil ha] at q'
      replace q' : rOp C (.dsp kvs) [] H Q := q'
      intro p hp
      refine tPairs_k kvs σ _ _ ⟨upd_same, kvs.map fun e => (.inr e.1, e.2.v), by rw [List.map_map] <;> rfl, by rw [List.length_map]; exact h15, ok_dsp hp q'⟩
    · cases h
  · cases h
theorem call_pe (c : Ctx P C M n Z W X) {f : Nat} {i : FInfo} {x : Str} {e : Expr} {r : List Expr} {es : Es} {p pos : Pos} (hp0 : i.pos = true) (hh : Z.hot = false) (hho : f ∉ P.ho) (hf : P.fns[f]? = some i) (hx : i.name = x) (hg : Gl X x) (hd : (x == ("__debug__" : Str)) = false)
    (ha : PA X (e :: r) (tL C W M es)) (he : starEach (e :: r) X.env = (false, eval e X.env) :: starEach r X.env) (hpl : (backTo pos (starEach r X.env)).any (·.1) = false) {t : TE}
    (k : ∀ σ H Q, t σ H Q → tL C W M es σ H fun vs H' => spF C i.io (M f) vs H' Q fun cls d H2 => W cls d σ H2) : PE X (.Call (.Name x p) (e :: r) [] pos) t := by
  subst hx
  obtain ⟨fa, fd, hm, hk, hb, F, _⟩ := (c.fns hh f i hho hf).ex
  exact pe_imp (pe_callS F (c.calm hh).2 hg hm hk (hb hp0) (fun σ => L2N.passAt c.tk σ) ha hd he hpl) fun σ H Q q => k σ H Q q
theorem callH_pe (c : Ctx P C M n Z W X) {f : Nat} {i : FInfo} {x : Str} {e : Expr} {r : List Expr} {es : Es} {p pos : Pos} (hp0 : i.pos = true) (hh : (Z.hot = false ∧ f ∉ P.ho) ∨ (Z.hot = true ∧ f ∈ P.hots)) (hf : P.fns[f]? = some i) (hx : i.name = x) (hg : Gl X x) (hd : (x == ("__debug__" : Str)) = false)
    (ha : PA X (e :: r) (tL C W M es)) (he : starEach (e :: r) X.env = (false, eval e X.env) :: starEach r X.env) (hpl : (backTo pos (starEach r X.env)).any (·.1) = false) {t : TE}
    (k : ∀ σ H Q, t σ H Q → tL C W M es σ H fun vs H' => spF C i.io (M f) vs H' Q fun cls d H2 => W cls d σ H2) : PE X (.Call (.Name x p) (e :: r) [] pos) t := by
  by_cases hz : Z.hot = false
  · have hho : f ∉ P.ho := by
      rcases hh with h | h
      · exact h.2
      · rw [hz] at h; cases h.1
    exact call_pe c hp0 hz hho hf hx hg hd ha he hpl k
  · have hz : Z.hot = true := by simpa using hz
    have hh : f ∈ P.hots := by
      rcases hh with h | h
      · rw [hz] at h; cases h.1
      · exact h.2
    subst hx
    obtain ⟨fa, fd, hm, hk, hb, F⟩ := (c.hf f i hh hf).ex
    obtain ⟨a, cc, d, oe, hi⟩ := c.ho hz
    have hC : C = C.hotAt a cc d := by
      have := hi.ex
      cases C
      cases this
      rfl
    exact pe_imp (pe_callHC (E := fun σ cls d H2 => W cls d σ H2) F hC c.rm hi hg hm hk (hb hp0) (fun σ => L2N.passAt c.tk σ) ha hd he hpl) fun σ H Q q => k σ H Q q
theorem kw_names {pos : Pos} {env : PySem.Env} : ∀ {kws : List Keyword} {ks : List Str}, kws.map (·.arg) = ks.map some → (backToKw pos (keywordEach kws env)).all (·.1.isSome) = true ∧ (backToKw pos (keywordEach kws env)).filterMap (·.1) = ks ∧ (backToKw pos (keywordEach kws env)).any (·.1.isNone) = false
  | [], [], _ => ⟨rfl, rfl, rfl⟩
  | ⟨a, v, p⟩ :: r, k :: ks, h => by
    have h' : a = some k ∧ r.map (·.arg) = ks.map some := by simpa using h
    obtain ⟨rfl, h2⟩ := h'
    obtain ⟨q1, q2, q3⟩ := kw_names (pos := pos) (env := env) h2
    refine ⟨?_, ?_, ?_⟩
    · show (true && (backToKw pos (keywordEach r env)).all (·.1.isSome)) = true
      rw [q1] <;> rfl
    · show k :: (backToKw pos (keywordEach r env)).filterMap (·.1) = k :: ks
      rw [q2]
    · show (false || (backToKw pos (keywordEach r env)).any (·.1.isNone)) = false
      rw [q3] <;> rfl
  | [], _ :: _, h => by cases h
  | _ :: _, [], h => by cases h
theorem and_list {K : Nat} {y : Expr} {r : List Expr} {p : Pos} {b : E} (h : (match r with | [] => chkE P Z K y b | _ => chkE P Z K (.BoolOp .And (y :: r) p) b) = true) (iE : ∀ e e', chkE P Z K e e' = true → PE X e (tD C W M e')) : PE X (.BoolOp .And (y :: r) p) (tD C W M b) := by
  cases r with
  | nil => exact pe_one (iE _ _ h)
  | cons _ _ => exact iE _ _ h
theorem or_list {K : Nat} {y : Expr} {r : List Expr} {p : Pos} {b : E} (h : (match r with | [] => chkE P Z K y b | _ => chkE P Z K (.BoolOp .Or (y :: r) p) b) = true) (iE : ∀ e e', chkE P Z K e e' = true → PE X e (tD C W M e')) : PE X (.BoolOp .Or (y :: r) p) (tD C W M b) := by
  cases r with
  | nil => exact pe_one (iE _ _ h)
  | cons _ _ => exact iE _ _ h
theorem chain_pe (c : Ctx P C M n Z W X) {o p : Op} {o' p' : CmpOp} (h1 : cmpO o' = some o) (h2 : cmpO p' = some p) (h3 : ordO o = true) (h4 : ordO p = true) {x y z : Expr} {a b d : E} {pos : Pos} (px : PE X x (tD C W M a)) (py : PE X y (tD C W M b)) (pz : PE X z (tD C W M d)) :
    PE X (.Compare x [o', p'] [y, z] pos) (tD C W M (.chain o p a b d)) ∧ PT X (.Compare x [o', p'] [y, z] pos) (tB (tD C W M (.chain o p a b d))) := by
  have hl : lastMarks [o', p'] [y, z] = false := by
    show behindInMarks p' z = false
    exact ord_mark h2 h4 z
  exact ⟨pe_imp (pe_chain (cmp_ok c h1) (cmp_ok c h2) px py pz hl) fun σ H Q q => td_chain h3 h4 q, pt_imp (pt_chain (cmp_ok c h1) (cmp_ok c h2) px py pz hl) fun σ H Q q => td_chain h3 h4 q⟩
/-- expressions but comprehensions -/
theorem eqKs_eq : ∀ {a b : List T}, eqKs a b = true → a = b ∧ a.all flatK = true
  | [], [], _ => ⟨rfl, rfl⟩
  | x :: a, y :: b, h => by
    have h' : eqK x y = true ∧ eqKs a b = true := by simpa [eqKs] using h
    obtain ⟨e, k⟩ := eqKs_eq h'.2
    have e1 := eqK_eq h'.1
    subst e1 e
    refine ⟨rfl, ?_⟩
    rw [List.all_cons, k, Bool.and_true]
    have := h'.1
    cases x <;> first | rfl | cases this
  | [], _ :: _, h => by cases h
  | _ :: _, [], h => by cases h
theorem sound_E {K : Nat} (ih : Below P C M n (K + 1)) (c : Ctx P C M n Z W X) (hcomp : ∀ (tg : Tg) (it : It) (cd el : E) (e : Expr), chkE P Z (K + 1) e (.comp tg it cd el) = true → PE X e (tD C W M (.comp tg it cd el))) : ∀ (e : Expr) (e' : E), chkE P Z (K + 1) e e' = true → PE X e (tD C W M e') := by
  intro e e' h
  have hk : K < K + 1 := Nat.lt_succ_self _
  obtain ⟨iE, iT, iA⟩ := ih K hk Z W X c
  cases e' with
  | comp tg it cd el => exact hcomp tg it cd el e h
  | op o es => exact sound_op ih c h
  | k t =>
    have h' : notStar e = true ∧ chkK P Z e t = true := by simpa [chkE] using h
    exact c.k h'.2
  | var i =>
    have h' : notStar e = true ∧ isNm Z e i = true := by simpa [chkE] using h
    exact pe_imp (c.nm h'.2) fun σ H Q q => td_var q
  | mv i =>
    have h' : notStar e = true ∧ isNm Z e i = true := by simpa [chkE] using h
    exact pe_imp (c.nm h'.2) fun σ H Q q => td_mv q
  | mvi v i =>
    unfold chkE at h
    simp only [Bool.and_eq_true] at h
    replace h := h.2
    split at h
    · simp only [Bool.and_eq_true, decide_eq_true_eq] at h
      obtain ⟨h1, rfl⟩ := h
      exact pe_imp (pe_ix ix_list (c.nm h1) pe_int (plainIx_of rfl)) fun σ H Q q => td_mvi q
    · cases h
  | lst es =>
    unfold chkE at h
    simp only [Bool.and_eq_true] at h
    replace h := h.2
    split at h
    · exact pe_imp (pe_lst (args_ok ih c K _ _ (Nat.le_of_lt hk) h)) fun σ H Q q => td_lst q
    · cases h
  | tup es =>
    unfold chkE at h
    simp only [Bool.and_eq_true] at h
    replace h := h.2
    split at h
    · exact pe_imp (pe_tup (args_ok ih c K _ _ (Nat.le_of_lt hk) h)) fun σ H Q q => td_tup q
    · cases h
  | and a b =>
    unfold chkE at h
    simp only [Bool.and_eq_true] at h
    replace h := h.2
    split at h
    · simp only [Bool.and_eq_true] at h
      exact pe_imp (pe_and (iE _ _ h.1) (and_list h.2 iE)) fun σ H Q q => td_and q
    · cases h
  | or a b =>
    unfold chkE at h
    simp only [Bool.and_eq_true] at h
    replace h := h.2
    split at h
    · simp only [Bool.and_eq_true] at h
      exact pe_imp (pe_or (iE _ _ h.1) (or_list h.2 iE)) fun σ H Q q => td_or q
    · cases h
  | not a =>
    unfold chkE at h
    simp only [Bool.and_eq_true] at h
    replace h := h.2
    split at h
    · exact pe_imp (pe_not (iE _ _ h)) fun σ H Q q => td_not q
    · cases h
  | ite cc a b =>
    unfold chkE at h
    simp only [Bool.and_eq_true] at h
    replace h := h.2
    split at h
    · simp only [Bool.and_eq_true] at h
      exact pe_imp (pe_ifExp (iT _ _ h.1.1) (iE _ _ h.1.2) (iE _ _ h.2)) fun σ H Q q => td_ite q
    · cases h
  | chain o p a b d =>
    unfold chkE at h
    simp only [Bool.and_eq_true] at h
    replace h := h.2
    split at h
    · simp only [Bool.and_eq_true, decide_eq_true_eq] at h
      obtain ⟨⟨⟨⟨⟨⟨h1, h2⟩, h3⟩, h4⟩, h5⟩, h6⟩, h7⟩ := h
      exact (chain_pe c h1 h2 h3 h4 (iE _ _ h5) (iE _ _ h6) (iE _ _ h7)).1
    · cases h
  | mtB o v b =>
    unfold chkE at h
    simp only [Bool.and_eq_true] at h
    replace h := h.2
    split at h
    · simp only [Bool.and_eq_true, decide_eq_true_eq] at h
      obtain ⟨⟨⟨h1, hl⟩, hm⟩, h2⟩ := h
      unfold mthB at hm
      split at hm
      · rename_i e
        cases hm
        subst e
        have nsb := chkE_star h2
        refine pe_imp (pe_bm PySem.F.plainAttrs_list PySem.F.slot_list_index PySem.F.type_list_index mt_index (c.nm h1) (pa_cons (iE _ _ h2) pa_nil (star_of nsb _ _)) (nm_base h1 _ _) (few_ok nsb _ _) hl (star_of nsb _ _) rfl) fun σ H Q q => ?_
        have r := td_mtB q
        refine mono_var σ H _ _ (fun x H1 z => ⟨c.hK ▸ z.1, mono_tD σ H1 _ _ (fun y H2 w => ?_) z.2⟩) r
        obtain ⟨p, vs, e1, e2, e3⟩ := ok_lidx c.hK w
        exact e3
      · cases hm
    · cases h
  | pk2 v k cc =>
    unfold chkE at h
    simp only [Bool.and_eq_true] at h
    replace h := h.2
    split at h
    · simp only [Bool.and_eq_true, decide_eq_true_eq] at h
      obtain ⟨⟨⟨h1, h2⟩, rfl⟩, rfl⟩ := h
      exact pe_imp (pe_ix ix_list (pe_ix ix_list (c.nm h1) pe_int (plainIx_of rfl)) (pe_ix ix_list (c.nm h2) pe_int (plainIx_of rfl)) (plainIx_of rfl)) fun σ H Q q => td_pk2 q
    · cases h
  | pkl v k =>
    unfold chkE at h
    simp only [Bool.and_eq_true] at h
    replace h := h.2
    split at h
    · simp only [Bool.and_eq_true, decide_eq_true_eq] at h
      obtain ⟨⟨⟨⟨⟨rfl, hg⟩, hd⟩, hbi⟩, h1⟩, rfl⟩ := h
      refine pe_imp (pe_callB call_len_seq (c.gl hg) (c.bi _ hbi) (by decide +kernel) (pa_cons (pe_ix ix_list (c.nm h1) pe_int (plainIx_of rfl)) pa_nil (star_of rfl _ _)) (by decide) (dbg_of hd).1 (star_of rfl _ _) rfl) fun σ H Q q => ?_
      obtain ⟨x, hx, p, xs, i, y, e1, e2, e3, e4, p2, ys, e5, e6, q2⟩ := td_pkl (K := X.K) q
      exact ⟨x, hx, p, xs, i, y, e1, e2, e3, e4, p2, ys, by rw [e5], .inl e6, q2⟩
    · cases h
  | pki v k =>
    unfold chkE at h
    simp only [Bool.and_eq_true] at h
    replace h := h.2
    split at h
    · simp only [Bool.and_eq_true, decide_eq_true_eq] at h
      obtain ⟨h1, rfl⟩ := h
      exact pe_imp (pe_ix ix_list (c.nm h1) pe_int (plainIx_of rfl)) fun σ H Q q => td_pki q
    · cases h
  | hld i e1 =>
    unfold chkE at h
    simp only [Bool.and_eq_true] at h
    replace h := h.2
    split at h
    · exact pe_imp (iE _ _ h) fun σ H Q q => td_hld q
    · cases h
  | slv v lo hi =>
    unfold chkE at h
    simp only [Bool.and_eq_true] at h
    replace h := h.2
    split at h
    · simp only [Bool.and_eq_true] at h
      exact pe_imp (pe_slice (SlR.or sl_list sl_str) (c.nm h.1.1) (po_some (iE _ _ h.1.2)) (po_some (iE _ _ h.2))) fun σ H Q q => by
        have r := td_slv (X := X) q
        refine mono_var σ H _ _ (fun x H1 z => mono_tD σ H1 _ _ (fun y H2 z => ?_) z) r
        obtain ⟨i, ei, z⟩ := z
        refine ⟨i, ei, mono_tD σ H2 _ _ (fun w H3 z => ?_) z⟩
        obtain ⟨j, ej, z⟩ := z
        exact ⟨j, ej, z⟩
    · cases h
  | callB f es =>
    unfold chkE at h
    simp only [Bool.and_eq_true] at h
    replace h := h.2
    split at h
    · rename_i x p as pos
      simp only [Bool.and_eq_true, Bool.or_eq_true, Bool.not_eq_true', decide_eq_true_eq, decide_eq_false_iff_not] at h
      obtain ⟨⟨hh, hg⟩, h⟩ := h
      split at h
      · rename_i i hi
        simp only [Bool.and_eq_true, decide_eq_true_eq] at h
        obtain ⟨⟨⟨⟨⟨⟨h1, h2⟩, h3⟩, h4⟩, h5⟩, h6⟩, hp0⟩ := h
        cases as with
        | nil => cases h3
        | cons a r =>
          obtain ⟨_, es', k', _, _, ha2, _, ns, _⟩ := opd_cons ih hk c h6
          have len : ∀ (k : Nat) (as : List Expr) (es : Es), chkA P Z k as es = true → es.len = as.length := by
            intro k
            induction k with
            | zero => intro as es h; cases h
            | succ k ihk =>
              intro as es h
              cases as with
              | nil => cases es with
                | nil => rfl
                | _ => cases h
              | cons a r => cases es with
                | nil => cases h
                | e a' r' =>
                  have h' : chkE P Z k a a' = true ∧ chkA P Z k r r' = true := by simpa [chkA] using h
                  show r'.len + 1 = r.length + 1
                  rw [ihk r r' h'.2]
                | v i r' =>
                  have h' : isNm Z a i = true ∧ chkA P Z k r r' = true := by simpa [chkA] using h
                  show r'.len + 1 = r.length + 1
                  rw [ihk r r' h'.2]
          refine callH_pe c hp0 hh hi h1 (c.gl hg) (dbg_of h2).1 (args_ok ih c K _ _ (Nat.le_of_lt hk) h6) (star_of ns r X.env) (chkA_any k' r es' pos X.env ha2) fun σ H Q q => td_callB (by rw [len K _ _ h6, h5, List.length_map, h4]) q
      · cases h
    · cases h
  | callF f es =>
    unfold chkE at h
    simp only [Bool.and_eq_true] at h
    replace h := h.2
    split at h
    · rename_i x p as pos
      simp only [Bool.and_eq_true, Bool.or_eq_true, Bool.not_eq_true', decide_eq_true_eq, decide_eq_false_iff_not] at h
      obtain ⟨⟨hh, hg⟩, h⟩ := h
      split at h
      · rename_i i hi
        simp only [Bool.and_eq_true, decide_eq_true_eq] at h
        obtain ⟨⟨⟨⟨⟨⟨h1, h2⟩, h3⟩, h4⟩, h5⟩, h6⟩, hp0⟩ := h
        cases as with
        | nil => cases h3
        | cons a r =>
          obtain ⟨_, es', k', _, _, ha2, _, ns, _⟩ := opd_cons ih hk c h6
          have len : ∀ (k : Nat) (as : List Expr) (es : Es), chkA P Z k as es = true → es.len = as.length := by
            intro k
            induction k with
            | zero => intro as es h; cases h
            | succ k ihk =>
              intro as es h
              cases as with
              | nil => cases es with
                | nil => rfl
                | _ => cases h
              | cons a r => cases es with
                | nil => cases h
                | e a' r' =>
                  have h' : chkE P Z k a a' = true ∧ chkA P Z k r r' = true := by simpa [chkA] using h
                  show r'.len + 1 = r.length + 1
                  rw [ihk r r' h'.2]
                | v i r' =>
                  have h' : isNm Z a i = true ∧ chkA P Z k r r' = true := by simpa [chkA] using h
                  show r'.len + 1 = r.length + 1
                  rw [ihk r r' h'.2]
          refine callH_pe c hp0 hh hi h1 (c.gl hg) (dbg_of h2).1 (args_ok ih c K _ _ (Nat.le_of_lt hk) h6) (star_of ns r X.env) (chkA_any k' r es' pos X.env ha2) fun σ H Q q => td_callF (by rw [len K _ _ h6, h5, List.length_map, h4]) q
      · cases h
    · cases h
  | callK f m perm dfl es =>
    unfold chkE at h
    simp only [Bool.and_eq_true] at h
    replace h := h.2
    split at h
    · rename_i x p as kws pos
      simp only [Bool.and_eq_true, Bool.not_eq_true', decide_eq_false_iff_not] at h
      obtain ⟨⟨⟨hh, hho⟩, hg⟩, h⟩ := h
      split at h
      · rename_i i hi
        simp only [Bool.and_eq_true, decide_eq_true_eq, List.any_eq_true] at h
        obtain ⟨⟨⟨⟨⟨⟨⟨h1, h2⟩, h3⟩, h4⟩, hm0⟩, ⟨q, hq, ⟨⟨h5a, h5⟩, h5'⟩, h5d⟩⟩, h6⟩, h7⟩ := h
        obtain ⟨h5d, hd0⟩ := eqKs_eq h5d
        obtain ⟨fa, fd, hm, hkp, hb, F, hkb, _⟩ := (c.fns hh f i hho hi).ex
        obtain ⟨g, hkn⟩ := (hkb q hq).kbn
        subst h1 h5' h5d
        obtain ⟨n1, n2, n3⟩ := kw_names (pos := pos) (env := X.env) h5
        have hlen : q.2.1.length = (es.drop m).len := by
          have e1 := congrArg List.length h5
          rw [List.length_map, List.length_map] at e1
          rw [← e1, ← List.length_map (f := (·.value)) (as := kws)]
          exact (chkA_lenK K _ _ h7).symm
        have hlen2 : (es.take m).len = m := by rw [chkA_lenK K _ _ h6, hm0]
        have key : ∀ {t : TE}, PE X (.Call (.Name i.name p) as kws pos) (tCallKS m q.2.1.length (spF C i.io (M f)) (permD .non q.2.2.1 (q.2.2.2.map Kdv)) (fun σ cls d H2 => W cls d σ H2) (tL C W M (es.take m)) (tL C W M (es.drop m))) → PE X (.Call (.Name i.name p) as kws pos) (tD C W M (.callK f m q.2.2.1 q.2.2.2 es)) := by
          intro _ r
          refine pe_imp r fun σ H Q qq => ?_
          have r2 := tL_split m es σ H _ (td_callK (io := i.io) hd0 h3 qq)
          refine ta_mono _ σ H _ _ (fun vs H' z => ?_) (tL_lenK _ σ H _ r2)
          refine ta_mono _ σ H' _ _ (fun zs H2 y => ?_) (tL_lenK _ σ H' _ z.1)
          refine ⟨by rw [z.2, hlen2], by rw [y.2, hlen], ?_⟩
          have y1 := y.1
          unfold permD at y1 ⊢
          rw [List.append_nil] at y1
          exact y1
        refine key (t := tC .non) ?_
        cases as with
        | nil =>
          have hm1 : m = 0 := hm0.symm
          subst hm1
          have e0 : es.take 0 = .nil := by cases es <;> rfl
          rw [e0]
          rw [h5a] at hkn
          exact pe_callN0 (E := fun σ cls d H2 => W cls d σ H2) F (c.calm hh).2 (c.gl hg) hm hkp hkn (fun σ => L2N.passAt c.tk σ) (kw_ok ih c K kws _ (Nat.le_of_lt hk) h7) n1 n2 (dbg_of h2).1 (by rw [n3] <;> rfl)
        | cons a r =>
          obtain ⟨_, es', k', _, _, ha2, _, ns, _⟩ := opd_cons ih hk c h6
          rw [h5a] at hkn
          exact pe_callNS (E := fun σ cls d H2 => W cls d σ H2) F (c.calm hh).2 (c.gl hg) hm hkp hkn (fun σ => L2N.passAt c.tk σ) (args_ok ih c K _ _ (Nat.le_of_lt hk) h6) (kw_ok ih c K kws _ (Nat.le_of_lt hk) h7) n1 n2 (dbg_of h2).1 (star_of ns r X.env) (by rw [n3, chkA_any K (a :: r) _ pos X.env h6] <;> rfl)
      · cases h
    · cases h
  | callI f es =>
    unfold chkE at h
    simp only [Bool.and_eq_true] at h
    replace h := h.2
    split at h
    · rename_i x p as pos
      simp only [Bool.and_eq_true, Bool.not_eq_true', decide_eq_false_iff_not] at h
      obtain ⟨⟨⟨hh, hho⟩, hg⟩, h⟩ := h
      split at h
      · rename_i i hi
        simp only [Bool.and_eq_true, decide_eq_true_eq] at h
        obtain ⟨⟨⟨⟨⟨⟨h1, h2⟩, h3⟩, h4⟩, h5⟩, h6⟩, hp0⟩ := h
        cases as with
        | nil => cases h3
        | cons a r =>
          obtain ⟨_, es', k', _, _, ha2, _, ns, _⟩ := opd_cons ih hk c h6
          exact call_pe c hp0 hh hho hi h1 (c.gl hg) (dbg_of h2).1 (args_ok ih c K _ _ (Nat.le_of_lt hk) h6) (star_of ns r X.env) (chkA_any k' r es' pos X.env ha2) fun σ H Q q => td_callI h5 q
      · cases h
    · cases h
theorem tb_and {a b : E} {Q : Bool → Hp → Prop} (h : tB (tD C W M (.and a b)) σ H Q) : tAnd (tB (tD C W M a)) (tB (tD C W M b)) σ H Q := by
  have h2 := td_and h
  refine mono_tD σ H _ _ (fun x H1 z => ?_) h2
  obtain ⟨k, e, z⟩ := z
  refine ⟨k, e, ?_⟩
  cases k with
  | true =>
    rw [if_pos rfl] at z ⊢
    exact z
  | false =>
    rw [if_neg Bool.false_ne_true] at z ⊢
    obtain ⟨k', e', q⟩ := z
    cases e'
    exact q
theorem tb_or {a b : E} {Q : Bool → Hp → Prop} (h : tB (tD C W M (.or a b)) σ H Q) : tOr (tB (tD C W M a)) (tB (tD C W M b)) σ H Q := by
  have h2 := td_or h
  refine mono_tD σ H _ _ (fun x H1 z => ?_) h2
  obtain ⟨k, e, z⟩ := z
  refine ⟨k, e, ?_⟩
  cases k with
  | true =>
    rw [if_pos rfl] at z ⊢
    obtain ⟨k', e', q⟩ := z
    cases e'
    exact q
  | false =>
    rw [if_neg Bool.false_ne_true] at z ⊢
    exact z
theorem tb_not {a : E} {Q : Bool → Hp → Prop} (h : tB (tD C W M (.not a)) σ H Q) : tNot (tB (tD C W M a)) σ H Q := by
  have h2 := td_not h
  refine mono_tD σ H _ _ (fun x H1 z => ?_) h2
  obtain ⟨k, e, k', e', q⟩ := z
  cases e'
  exact ⟨k, e, q⟩
end Kv

/-! Kv 10: targets, what is walked. -/
namespace Kv
open PySem L2
variable {P : Prg} {C : RC} {S S' : Addr → Prop} {H H' : Hp} {X : Cx} {W : WX} {M : Fns} {σ τ : St} {n : Nat} {Z : Nm}

/-! ### targets -/
def PinEq (P : List Nat) (σ τ : St) : Prop := ∀ j ∈ P, τ[j]? = σ[j]?
def SlotEq (is : List Nat) (σ τ : St) : Prop := τ.length = σ.length ∧ ∀ j, j ∉ is → τ[j]? = σ[j]?
theorem PinEq.refl {P : List Nat} : PinEq P σ σ := fun _ _ => rfl
theorem PinEq.trans {P : List Nat} {σ τ υ : St} (a : PinEq P σ τ) (b : PinEq P τ υ) : PinEq P σ υ := fun j hj => (b j hj).trans (a j hj)
theorem SlotEq.refl {is : List Nat} : SlotEq is σ σ := ⟨rfl, fun _ _ => rfl⟩
theorem SlotEq.trans {is : List Nat} {σ τ υ : St} (a : SlotEq is σ τ) (b : SlotEq is τ υ) : SlotEq is σ υ := ⟨b.1.trans a.1, fun j hj => (b.2 j hj).trans (a.2 j hj)⟩
def gsN : List Nat → TGs
  | [] => gNil
  | i :: is => gCons (gName i) (gsN is)
def tgT (K : PySem.W.Frag) : Tg → TG
  | .one i => gName i
  | .many is => gTup K is.length (gsN is)
theorem put1_of {i : Nat} {t : T} {Pn : List Nat} {g g' : Env} (h : put1 i t Pn g = some g') : i ∉ Pn ∧ i < g.length ∧ g' = g.set i (some t) := by
  unfold put1 at h
  split at h
  · cases h
  · split at h
    · cases h
      exact ⟨by assumption, by assumption, rfl⟩
    · cases h
theorem put1_ok {i : Nat} {t : T} {x : V} {Pn : List Nat} {g g' : Env} {F F1 : List Addr} (G : Good C S H g σ F) (r : Rp C S H t x F1) (n : F1.Nodup) (d : Dj F1 F) (h : put1 i t Pn g = some g') :
    ∃ F', Good C S H g' (σ.set i (some x)) F' ∧ (∀ b ∈ F', b ∈ F ∨ b ∈ F1) ∧ PinEq Pn σ (σ.set i (some x)) ∧ SlotEq [i] σ (σ.set i (some x)) := by
  obtain ⟨h1, h2, rfl⟩ := put1_of h
  obtain ⟨F', G', a, _⟩ := G.put (i := i) h2 (o := some t) (y := some x) ⟨x, rfl, r⟩ n d
  refine ⟨F', G', a, fun j hj => ?_, List.length_set .., fun j hj => ?_⟩
  · exact List.getElem?_set_ne (fun (z : i = j) => h1 (by rw [z]; exact hj))
  · exact List.getElem?_set_ne (fun (z : i = j) => hj (by rw [z]; exact List.mem_singleton.mpr rfl))
theorem putN_ok : ∀ (is : List Nat) (ts : List T) (vs : List V) (Pn : List Nat) (g g' : Env) (σ : St) (F : List Addr), Good C S H g σ F → RpL C S H ts vs [] → putN is ts Pn g = some g' →
    vs.length = is.length ∧ ∃ τ F', Good C S H g' τ F' ∧ (∀ b ∈ F', b ∈ F) ∧ PinEq Pn σ τ ∧ SlotEq is σ τ ∧ ∀ Q : St → Hp → Prop, Q τ H → gsN is vs σ H Q
  | [], [], vs, Pn, g, g', σ, F, G, r, h => by
    cases h
    obtain ⟨e, _⟩ := r
    subst e
    exact ⟨rfl, σ, F, G, fun b hb => hb, PinEq.refl, SlotEq.refl, fun Q q => ⟨rfl, q⟩⟩
  | i :: is, t :: ts, vs, Pn, g, g', σ, F, G, ⟨v, ws, F1, F2, e, eF, r1, r2⟩, h => by
    subst e
    have e1 : F1 = [] := (List.append_eq_nil_iff.mp eF.symm).1
    have e2 : F2 = [] := (List.append_eq_nil_iff.mp eF.symm).2
    subst e1 e2
    cases e3 : put1 i t Pn g with
    | none => rw [putN, e3] at h; cases h
    | some g1 =>
      rw [putN, e3] at h
      obtain ⟨F3, G3, a3, p3, s3⟩ := put1_ok G r1 List.nodup_nil (fun b hb => nomatch hb) e3
      obtain ⟨hl, τ, F4, G4, a4, p4, s4, q4⟩ := putN_ok is ts ws Pn g1 g' _ F3 G3 r2 h
      refine ⟨by rw [List.length_cons, List.length_cons, hl], τ, F4, G4, (fun b hb => (a3 b (a4 b hb)).elim id fun z => (nomatch z)), p3.trans p4, ⟨s4.1.trans s3.1, fun j hj => ?_⟩, fun Q q => ⟨v, ws, rfl, q4 Q q⟩⟩
      simp only [List.mem_cons, not_or] at hj
      exact (s4.2 j hj.2).trans (s3.2 j (by simpa using hj.1))
  | [], _ :: _, _, _, _, _, _, _, _, _, h => by cases h
  | _ :: _, [], _, _, _, _, _, _, _, _, h => by cases h
/-- a target takes a value -/
theorem tgt_ok {tg : Tg} {t : T} {x : V} {Pn : List Nat} {g g' : Env} {F F1 : List Addr} (G : Good C S H g σ F) (r : Rp C S H t x F1) (n : F1.Nodup) (d : Dj F1 F) (h : tg.put t Pn g = some g') :
    ∃ S' τ F', Tr S H (F ++ F1) S' H F' ∧ Good C S' H g' τ F' ∧ PinEq Pn σ τ ∧ SlotEq tg.slots σ τ ∧ ∀ Q : St → Hp → Prop, Q τ H → tgT C.K tg x σ H Q := by
  cases tg with
  | one i =>
    obtain ⟨F', G', a, p, s⟩ := put1_ok G r n d h
    exact ⟨S, _, F', Tr.refl.sub' fun b hb => List.mem_append.mpr (a b hb), G', p, s, fun Q q => q⟩
  | many is =>
    cases t with
    | tup ts =>
      obtain ⟨a, vs, ex, ha, rl⟩ := r
      have own := RpL.own ts vs F1 rl
      have G1 := G.grow d fun b hb => (own b hb).2
      have rl' : RpL C (SF S F1) H (T.fzL ts) vs [] := RpL.froz (fun a z => .inl z) ts vs F1 (fun b hb => .inr hb) rl
      obtain ⟨hl, τ, F', G', a', p, s, q⟩ := putN_ok is (T.fzL ts) vs Pn g g' σ F G1 rl' h
      exact ⟨SF S F1, τ, F', Tr.froze (fun b hb => List.mem_append_left _ (a' b hb)) fun b hb => List.mem_append_right _ hb, G', p, s, fun Q z => ⟨a, vs, ex, .of ha, hl, q Q z⟩⟩
    | _ => cases h

/-! ### what is walked -/
/-- J yields the trees xs, as long as what stood at S0, H0 with the own places Fl stays -/
structure Src (C : RC) (S0 : Addr → Prop) (H0 : Hp) (Fl : List Addr) (xs : List T) (J : L2.It) : Prop where
  own : ∀ b ∈ Fl, ¬ S0 b ∧ ∃ ys, H0 b = some (.lst ys)
  run : ∀ (S : Addr → Prop) (H : Hp), (∀ a, S0 a → S a) → Stays S0 Fl H0 H → (∀ b ∈ Fl, ¬ S b) →
    (∀ i, i < xs.length → J.go i H) ∧ (∀ i, xs.length ≤ i → J.stop i H) ∧ ∀ i x H', J.yld i H x H' → ∀ t, xs[i]? = some t → Same H H' ∧ Rp C S H' t x []
theorem getRp {xs : List T} {vs : List V} {i : Nat} {t : T} (h : RpL C S H xs vs []) (e : xs[i]? = some t) : ∃ v, vs[i]? = some v ∧ Rp C S H t v [] := by
  obtain ⟨v, F1, a, b, c⟩ := h.get e
  cases F1 with
  | nil => exact ⟨v, a, b⟩
  | cons q r => exact absurd (c q List.mem_cons_self) (by simp)
theorem src_list {K : PySem.W.Frag} {o : Bool} {xs : List T} {a : Addr} {Fl : List Addr} (r : Rp C S H (.lst o xs) (.ref a) Fl) (k : (T.lst o xs).fk = .lst o xs) : Src C S H Fl xs (Itl K a) := by
  refine ⟨Rp.own _ _ _ r, fun S2 H2 h1 h2 h3 => ?_⟩
  obtain ⟨a', vs, ea, ha, rl⟩ := (Rp.stay h1 _ _ _ h2 h3 r).kids k
  cases ea
  have hl := rl.length
  refine ⟨fun i hi => ?_, fun i hi => ⟨vs, .of ha, by omega⟩, fun i x H' y t e => ?_⟩
  · obtain ⟨v, e, _⟩ := getRp rl (List.getElem?_eq_getElem hi)
    exact ⟨vs, v, .of ha, e⟩
  · obtain ⟨rfl, y⟩ := y
    obtain ⟨v, e2, rv⟩ := getRp rl e
    have e3 := y vs (.of ha)
    rw [e2] at e3
    cases e3
    exact ⟨Same.refl _, rv⟩
theorem src_tup {K : PySem.W.Frag} {xs : List T} {a : Addr} {Fl : List Addr} (r : Rp C S H (.tup xs) (.ref a) Fl) (k : (T.tup xs).fk = .tup xs) : Src C S H Fl xs (Itt K a) := by
  refine ⟨Rp.own _ _ _ r, fun S2 H2 h1 h2 h3 => ?_⟩
  obtain ⟨a', vs, ea, ha, rl⟩ := (Rp.stay h1 _ _ _ h2 h3 r).kidsT k
  cases ea
  have hl := rl.length
  refine ⟨fun i hi => ?_, fun i hi => ⟨vs, .of ha, by omega⟩, fun i x H' y t e => ?_⟩
  · obtain ⟨v, e, _⟩ := getRp rl (List.getElem?_eq_getElem hi)
    exact ⟨vs, v, .of ha, e⟩
  · obtain ⟨rfl, y⟩ := y
    obtain ⟨v, e2, rv⟩ := getRp rl e
    have e3 := y vs (.of ha)
    rw [e2] at e3
    cases e3
    exact ⟨Same.refl _, rv⟩
theorem src_rng {lo : Int} {m : Nat} : Src C S H [] ((List.range m).map fun (k : Nat) => .int (lo + (k : Int))) (Itr lo m) := by
  refine ⟨(fun b hb => nomatch hb), fun S2 H2 h1 h2 h3 => ⟨fun i hi => ?_, fun i hi => ?_, fun i x H' y t e => ?_⟩⟩
  · show i < m
    simpa using hi
  · show m ≤ i
    simpa using hi
  · obtain ⟨rfl, rfl⟩ := y
    rw [List.getElem?_map] at e
    cases e2 : (List.range m)[i]? with
    | none => rw [e2] at e; cases e
    | some j =>
      rw [e2] at e
      obtain ⟨hj, ej⟩ := List.getElem?_eq_some_iff.mp e2
      rw [List.getElem_range] at ej
      subst ej
      cases e
      exact ⟨Same.refl _, rfl, rfl⟩
/-- a list or a tuple, whichever it is -/
def iSeq (K : PySem.W.Frag) (tl : TE) : TI := fun σ H R => tl σ H fun x H1 => (∃ z, x = .str z ∧ R (Its z) H1) ∨ ∃ a, x = .ref a ∧ (((∃ xs, SqL K H1 a xs) ∧ R (Itl K a) H1) ∨ ((∃ xs, SqT K H1 a xs) ∧ R (Itt K a) H1))
theorem pi_seq {tg l : Expr} {tl : TE} (hl : PE X l tl) : PI X tg l (iSeq X.K tl) := by
  constructor
  intro pins s σ H R I h
  refine thn (hl.run pins s σ H _ I h) fun v s1 hv => ?_
  obtain ⟨x, H1, I1, r1, hv⟩ := hv
  rcases hv with ⟨z, ez, q⟩ | hv
  · subst ez
    obtain ⟨t, rfl⟩ := r1
    cases ha : z.cps.all (· < 128)
    · exact wpAny_pyIter_wide ha (pi_one (tk := s1.toks) I1 _ (turn_str _ z t "str_iterator" (.inr rfl)) ⟨_, Heap.get?_push_size _ rfl, rfl, rfl⟩ q)
    · exact wpAny_pyIter_ascii ha (pi_one (tk := s1.toks) I1 _ (turn_str _ z t "str_ascii_iterator" (.inl rfl)) ⟨_, Heap.get?_push_size _ rfl, rfl, rfl⟩ q)
  obtain ⟨a, e, hq⟩ := hv
  subst e
  cases r1
  have keep : ∀ {o : Obj} (b : Addr) (u : Obj), s1.heap.get? b = some u → (s1.heap.push o).get? b = some u := fun b u z => Heap.get?_push_of_some _ z
  have fp : ∀ b ∈ [s1.heap.objs.size], FpOk X pins H1 b := by
    intro b hb
    rw [List.mem_singleton.mp hb]
    exact I1.fpOk (Nat.le_refl _) (I1.hok.fresh (Nat.le_refl _))
  rcases hq with ⟨⟨xs, hx⟩, q⟩ | ⟨⟨xs, hx⟩, q⟩
  · obtain ⟨its, _, pl, _⟩ := I1.list hx
    exact wpAny_pyIter_list pl.isList ⟨_, _, _, _, H1, rfl, I1.kept (t' := s1.toks) keep, turn_list a _, ⟨_, Heap.get?_push_size _ rfl, rfl, rfl⟩, fp, q⟩
  · obtain ⟨its, _, pl, _⟩ := I1.tuple hx
    exact wpAny_pyIter_tuple (show s1.heap.IsTuple a its.toArray from pl) ⟨_, _, _, _, H1, rfl, I1.kept (t' := s1.toks) keep, turn_tuple a _, ⟨_, Heap.get?_push_size _ rfl, rfl, rfl⟩, fp, q⟩
theorem pi_imp {tg it : Expr} {w w' : TI} (h : PI X tg it w) (k : ∀ σ H R, w' σ H R → w σ H R) : PI X tg it w' := ⟨fun pins s σ H R I q => h.run pins s σ H R I (k σ H R q)⟩
/-- the slot that is to be refilled -/
def BackOk (C : RC) (S : Addr → Prop) (H : Hp) (σ : St) (Fl : List Addr) (p : Option (Nat × T)) : Prop := match p with
  | none => True
  | some (i, t) => ∃ x, σ[i]? = some (some x) ∧ Rp C S H t x Fl
def siT (C : RC) (W : WX) (M : Fns) (it : Kv.It) : TI := fun σ H R => ∃ S g F, Good C S H g σ F ∧ match itS M it g with
  | .ok p g1 => ∀ J H1 S1 F1 Fl, Tr S H F S1 H1 (F1 ++ Fl) → Good C S1 H1 g1 σ F1 → Fl.Nodup → Dj Fl F1 → Src C S1 H1 Fl p.1 J → BackOk C S1 H1 σ Fl p.2 → R J H1
  | .exc c fs g1 => outX C W σ S H F c fs g1
  | .bad => False
theorem seqOf_of {t : T} {xs : List T} (h : seqOf t = some xs) : (∃ z : Str, t = .str z ∧ xs = z.cps.toList.map fun c => .str ⟨#[c]⟩) ∨ (∃ o, t = .lst o xs) ∨ t = .tup xs := by
  unfold seqOf at h
  split at h
  · cases h; exact .inr (.inl ⟨_, rfl⟩)
  · cases h; exact .inr (.inr rfl)
  · cases h; exact .inl ⟨_, rfl, rfl⟩
  · cases h
theorem src_str {z : Str} : Src C S H [] (z.cps.toList.map fun c => .str ⟨#[c]⟩) (Its z) := by
  refine ⟨(fun b hb => nomatch hb), fun S2 H2 h1 h2 h3 => ⟨fun i hi => ?_, fun i hi => ?_, fun i x H' y t e => ?_⟩⟩
  · show i < z.cps.size
    simpa using hi
  · show z.cps.size ≤ i
    simpa using hi
  · obtain ⟨rfl, c, hc, rfl⟩ := y
    rw [List.getElem?_map, Array.getElem?_toList, hc] at e
    cases e
    exact ⟨Same.refl _, rfl, rfl⟩
theorem src_of {K : PySem.W.Frag} {t : T} {xs : List T} {x : V} {Fl : List Addr} (h : seqOf t = some xs) (k : t.fk = t) (r : Rp C S H t x Fl) : (∃ z, x = .str z ∧ Src C S H Fl xs (Its z)) ∨ ∃ a, x = .ref a ∧ (((∃ ys, SqL K H a ys) ∧ Src C S H Fl xs (Itl K a)) ∨ ((∃ ys, SqT K H a ys) ∧ Src C S H Fl xs (Itt K a))) := by
  rcases seqOf_of h with ⟨z, rfl, rfl⟩ | ⟨o, rfl⟩ | rfl
  · obtain ⟨rfl, rfl⟩ := r
    exact .inl ⟨z, rfl, src_str⟩
  · obtain ⟨a, vs, rfl, ha, _⟩ := r.kids k
    exact .inr ⟨a, rfl, .inl ⟨⟨vs, .of ha⟩, src_list r k⟩⟩
  · obtain ⟨a, vs, rfl, ha, _⟩ := r.kidsT k
    exact .inr ⟨a, rfl, .inr ⟨⟨vs, .of ha⟩, src_tup r k⟩⟩
theorem si_e {a : E} {R : L2.It → Hp → Prop} {K : PySem.W.Frag} (h : siT C W M (.e a) σ H R) : iSeq K (tD C W M a) σ H R := by
  obtain ⟨S, g, F, G, h⟩ := h
  refine ⟨S, g, F, G, ?_⟩
  unfold itS at h
  cases e : ev M a g with
  | bad => rw [e] at h; exact h
  | exc c fs g1 => rw [e] at h; exact h
  | ok t g1 =>
    rw [e] at h
    intro x H1 S1 F1 Fa t1 G1 r nd dj
    cases e2 : seqOf t.fk with
    | none => simp only [Rs.bind, e2] at h
    | some xs =>
      simp only [Rs.bind, e2] at h
      obtain ⟨Fb, b1, b2, b3⟩ := Rp.fk' nd r
      have own := Rp.own t x Fa r
      have sa : ∀ a, S1 a → S1 a ∨ (a ∈ Fa ∧ a ∉ Fb) := fun a z => .inl z
      have r2 := b3 (fun a => S1 a ∨ (a ∈ Fa ∧ a ∉ Fb)) sa (fun b h1 h2 => .inr ⟨h1, h2⟩) fun b hb z => z.elim (fun z => (own b (b1 b hb)).1 z) fun z => z.2 hb
      have G2 : Good C (fun a => S1 a ∨ (a ∈ Fa ∧ a ∉ Fb)) H1 g1 σ F1 := G1.stay sa Stays.same (fun b hb z => z.elim (fun z => (G1.own b hb).1 z) fun z => dj b z.1 hb) fun a z => z.elim (G1.sdom a) fun z => (own a z.1).2
      have t2 : Tr S H F (fun a => S1 a ∨ (a ∈ Fa ∧ a ∉ Fb)) H1 (F1 ++ Fb) := t1.trans ⟨sa, fun _ _ z _ => z, fun b z => z.elim .inl fun z => .inr (.inl (List.mem_append_right _ z.1)), fun b hb => .inl ((List.mem_append.mp hb).elim (fun z => List.mem_append_left _ z) fun z => List.mem_append_right _ (b1 b z)), fun _ z => z⟩
      rcases src_of (K := K) e2 (T.fk_fk t) r2 with ⟨z, ez, q⟩ | ⟨p, ex, q⟩
      · exact .inl ⟨z, ez, h _ H1 _ F1 Fb t2 G2 b2 (fun b hb => dj b (b1 b hb)) q trivial⟩
      refine .inr ⟨p, ex, ?_⟩
      rcases q with ⟨q1, q2⟩ | ⟨q1, q2⟩
      · exact .inl ⟨q1, h _ H1 _ F1 Fb t2 G2 b2 (fun b hb => dj b (b1 b hb)) q2 trivial⟩
      · exact .inr ⟨q1, h _ H1 _ F1 Fb t2 G2 b2 (fun b hb => dj b (b1 b hb)) q2 trivial⟩
theorem si_v {i : Nat} {R : L2.It → Hp → Prop} {K : PySem.W.Frag} (h : siT C W M (.v i) σ H R) : iSeq K (tVar i) σ H R := by
  obtain ⟨S, g, F, G, h⟩ := h
  unfold itS at h
  cases e : g.getD i none with
  | none => rw [e] at h; exact h.elim
  | some t =>
    rw [e] at h
    simp only [Option.map_some] at h
    cases e2 : seqOf t.fk with
    | none => rw [e2] at h; exact h.elim
    | some xs =>
      rw [e2] at h
      simp only at h
      obtain ⟨Fr, Fi, hs, G1, n1, d1, hm⟩ := G.take (getD_lt e)
      rw [e] at hs
      obtain ⟨x, ex, r⟩ := hs
      have hx := slot_some (by rw [G.len]; exact getD_lt e) ex
      obtain ⟨Fb, b1, b2, b3⟩ := Rp.fk' n1 r
      have own := Rp.own t x Fi r
      have sa : ∀ a, S a → S a ∨ (a ∈ Fi ∧ a ∉ Fb) := fun a z => .inl z
      have r2 := b3 (fun a => S a ∨ (a ∈ Fi ∧ a ∉ Fb)) sa (fun b h1 h2 => .inr ⟨h1, h2⟩) fun b hb z => z.elim (fun z => (own b (b1 b hb)).1 z) fun z => z.2 hb
      have G2 : Good C (fun a => S a ∨ (a ∈ Fi ∧ a ∉ Fb)) H (g.set i none) σ Fr := G1.stay sa Stays.same (fun b hb z => z.elim (fun z => (G1.own b hb).1 z) fun z => d1 b z.1 hb) fun a z => z.elim (G1.sdom a) fun z => (own a z.1).2
      have t2 : Tr S H F (fun a => S a ∨ (a ∈ Fi ∧ a ∉ Fb)) H (Fr ++ Fb) := ⟨sa, fun _ _ z _ => z, fun b z => z.elim .inl fun z => .inr (.inl ((hm b).mpr (.inr z.1))), fun b hb => .inl ((hm b).mpr ((List.mem_append.mp hb).imp id (b1 b))), fun _ z => z⟩
      rcases src_of (K := K) e2 (T.fk_fk t) r2 with ⟨z, ez, q⟩ | ⟨p, ep, q⟩
      · exact ⟨x, hx, .inl ⟨z, ez, h _ H _ Fr Fb t2 G2 b2 (fun b hb => d1 b (b1 b hb)) q ⟨x, hx, r2⟩⟩⟩
      refine ⟨x, hx, .inr ⟨p, ep, ?_⟩⟩
      rcases q with ⟨q1, q2⟩ | ⟨q1, q2⟩
      · exact .inl ⟨q1, h _ H _ Fr Fb t2 G2 b2 (fun b hb => d1 b (b1 b hb)) q2 ⟨x, hx, r2⟩⟩
      · exact .inr ⟨q1, h _ H _ Fr Fb t2 G2 b2 (fun b hb => d1 b (b1 b hb)) q2 ⟨x, hx, r2⟩⟩
theorem lstOf_of {t : T} {xs : List T} (h : lstOf t = some xs) : ∃ o, t = .lst o xs := by
  cases t <;> first | (cases h; done) | skip
  cases h
  exact ⟨_, rfl⟩
/-- a value frozen whole -/
theorem froze_all {t : T} {x : V} {F F1 Fa : List Addr} {S0 : Addr → Prop} {H0 : Hp} {g1 : Env} (t1 : Tr S0 H0 F S H (F1 ++ Fa)) (G1 : Good C S H g1 σ F1) (r : Rp C S H t x Fa) (dj : Dj Fa F1) : Tr S0 H0 F (SF S Fa) H (F1 ++ []) ∧ Good C (SF S Fa) H g1 σ F1 ∧ Rp C (SF S Fa) H t.fz x [] := by
  have own := Rp.own t x Fa r
  refine ⟨t1.trans ?_, G1.grow dj fun b hb => (own b hb).2, Rp.froz (fun a z => .inl z) t x Fa (fun b hb => .inr hb) r⟩
  exact Tr.froze (fun b hb => by rw [List.append_nil] at hb; exact List.mem_append_left _ hb) fun b hb => List.mem_append_right _ hb
theorem src_enm {K : PySem.W.Frag} {o : Bool} {xs : List T} {a : Addr} (r : Rp C S H (.lst o xs) (.ref a) []) (k : (T.lst o xs).fk = .lst o xs) : Src C S H [] (enmT xs) (Ite K a) := by
  refine ⟨Rp.own _ _ _ r, fun S2 H2 h1 h2 h3 => ?_⟩
  obtain ⟨a', vs, ea, ha, rl⟩ := (Rp.stay h1 _ _ _ h2 h3 r).kids k
  cases ea
  have hl := rl.length
  have el : (enmT xs).length = xs.length := by simp [enmT]
  refine ⟨fun i hi => ?_, fun i hi => ⟨vs, .of ha, by omega⟩, fun i x H' y t e => ?_⟩
  · obtain ⟨v, e, _⟩ := getRp rl (List.getElem?_eq_getElem (by omega : i < xs.length))
    exact ⟨vs, v, .of ha, e⟩
  · obtain ⟨p, v, rfl, hp, rfl, y⟩ := y
    have e3 := y vs (.of ha)
    unfold enmT at e
    rw [List.getElem?_zipWith] at e
    cases e4 : xs[i]? with
    | none => rw [e4] at e; cases hh : (List.range xs.length)[i]? <;> rw [hh] at e <;> cases e
    | some u =>
      have hi : i < xs.length := (List.getElem?_eq_some_iff.mp e4).1
      rw [e4, List.getElem?_range hi] at e
      cases e
      obtain ⟨v', e2, rv⟩ := getRp rl e4
      rw [e2] at e3
      cases e3
      have sm : Same H2 (upd H2 p (.tup [.int (i : Nat), v])) := fun b o z => by rw [upd_ne (ne_of_none z hp)]; exact z
      exact ⟨sm, p, _, rfl, upd_same, .int (i : Nat), [v], [], [], rfl, rfl, ⟨rfl, rfl⟩, v, [], [], [], rfl, rfl, Rp.stay (fun _ z => z) _ _ _ (fun b o z _ => sm b o z) (fun b hb => nomatch hb) rv, rfl, rfl⟩
theorem src_rev {K : PySem.W.Frag} {o : Bool} {xs : List T} {a : Addr} {m : Nat} (hm : m = xs.length) (r : Rp C S H (.lst o xs) (.ref a) []) (k : (T.lst o xs).fk = .lst o xs) : Src C S H [] xs.reverse (Itv K a m) := by
  subst hm
  refine ⟨Rp.own _ _ _ r, fun S2 H2 h1 h2 h3 => ?_⟩
  obtain ⟨a', vs, ea, ha, rl⟩ := (Rp.stay h1 _ _ _ h2 h3 r).kids k
  cases ea
  have hl := rl.length
  rw [List.length_reverse]
  refine ⟨fun i hi => ?_, fun i hi => hi, fun i x H' y t e => ?_⟩
  · obtain ⟨v, e, _⟩ := getRp rl (List.getElem?_eq_getElem (by omega : xs.length - 1 - i < xs.length))
    exact ⟨hi, vs, v, .of ha, e⟩
  · obtain ⟨rfl, y⟩ := y
    have hi : i < xs.length := by
      have := (List.getElem?_eq_some_iff.mp e).1
      simpa using this
    rw [List.getElem?_reverse hi] at e
    obtain ⟨v, e2, rv⟩ := getRp rl e
    have e3 := y vs (.of ha)
    rw [e2] at e3
    cases e3
    exact ⟨Same.refl _, rv⟩
theorem src_zip {K : PySem.W.Frag} {o p : Bool} {xs ys : List T} {a b : Addr} (r : Rp C S H (.lst o xs) (.ref a) []) (k : (T.lst o xs).fk = .lst o xs) (r' : Rp C S H (.lst p ys) (.ref b) []) (k' : (T.lst p ys).fk = .lst p ys) : Src C S H [] (zipT xs ys) (Itz K a b) := by
  refine ⟨Rp.own _ _ _ r, fun S2 H2 h1 h2 h3 => ?_⟩
  obtain ⟨a', vs, ea, ha, rl⟩ := (Rp.stay h1 _ _ _ h2 h3 r).kids k
  cases ea
  obtain ⟨b', ws, eb, hb, rl'⟩ := (Rp.stay h1 _ _ _ h2 h3 r').kids k'
  cases eb
  have hl := rl.length
  have hl' := rl'.length
  have el : (zipT xs ys).length = min xs.length ys.length := by simp [zipT]
  refine ⟨fun i hi => ?_, fun i hi => ⟨vs, ws, .of ha, .of hb, by omega⟩, fun i x H' y t e => ?_⟩
  · obtain ⟨v, e, _⟩ := getRp rl (List.getElem?_eq_getElem (by omega : i < xs.length))
    obtain ⟨w, e', _⟩ := getRp rl' (List.getElem?_eq_getElem (by omega : i < ys.length))
    exact ⟨vs, ws, v, w, .of ha, .of hb, e, e'⟩
  · obtain ⟨q, v, w, rfl, hq, rfl, y, y'⟩ := y
    have e3 := y vs (.of ha)
    have e3' := y' ws (.of hb)
    have hi : i < (zipT xs ys).length := (List.getElem?_eq_some_iff.mp e).1
    unfold zipT at e
    rw [List.getElem?_zipWith, List.getElem?_eq_getElem (by omega : i < xs.length), List.getElem?_eq_getElem (by omega : i < ys.length)] at e
    cases e
    obtain ⟨v', e2, rv⟩ := getRp rl (List.getElem?_eq_getElem (by omega : i < xs.length))
    obtain ⟨w', e2', rw'⟩ := getRp rl' (List.getElem?_eq_getElem (by omega : i < ys.length))
    rw [e2] at e3
    cases e3
    rw [e2'] at e3'
    cases e3'
    have sm : Same H2 (upd H2 q (.tup [v, w])) := fun b o z => by rw [upd_ne (ne_of_none z hq)]; exact z
    exact ⟨sm, q, _, rfl, upd_same, v, [w], [], [], rfl, rfl, Rp.stay (fun _ z => z) _ _ _ (fun b o z _ => sm b o z) (fun b hb => nomatch hb) rv, w, [], [], [], rfl, rfl, Rp.stay (fun _ z => z) _ _ _ (fun b o z _ => sm b o z) (fun b hb => nomatch hb) rw', rfl, rfl⟩
theorem src_rngC {lo c : Int} {m : Nat} : Src C S H [] ((List.range m).map fun (k : Nat) => .int (lo + (k : Nat) * c)) (Itc lo c m) := by
  refine ⟨(fun b hb => nomatch hb), fun S2 H2 h1 h2 h3 => ⟨fun i hi => ?_, fun i hi => ?_, fun i x H' y t e => ?_⟩⟩
  · show i < m
    simpa using hi
  · show m ≤ i
    simpa using hi
  · obtain ⟨rfl, rfl⟩ := y
    rw [List.getElem?_map] at e
    cases e2 : (List.range m)[i]? with
    | none => rw [e2] at e; cases e
    | some j =>
      rw [e2] at e
      obtain ⟨hj, ej⟩ := List.getElem?_eq_some_iff.mp e2
      rw [List.getElem_range] at ej
      subst ej
      cases e
      exact ⟨Same.refl _, rfl, rfl⟩
theorem fz_fk_lst {o : Bool} {xs : List T} {t : T} (h : t.fz = .lst o xs) : (T.lst o xs).fk = .lst o xs := by
  cases t <;> first | (cases h; done) | skip
  cases h
  show T.lst false (T.fzL (T.fzL _)) = _
  rw [T.fzL_fzL]
theorem si_enm {a : E} {R : L2.It → Hp → Prop} {K : PySem.W.Frag} (h : siT C W M (.enm a) σ H R) : tD C W M a σ H fun x H1 => ∃ p xs, x = .ref p ∧ SqL K H1 p xs ∧ R (Ite K p) H1 := by
  obtain ⟨S, g, F, G, h⟩ := h
  refine ⟨S, g, F, G, ?_⟩
  unfold itS at h
  cases e : ev M a g with
  | bad => rw [e] at h; exact h
  | exc c fs g1 => rw [e] at h; exact h
  | ok t g1 =>
    rw [e] at h
    intro x H1 S1 F1 Fa t1 G1 r nd dj
    cases e2 : lstOf t.fz with
    | none => simp only [Rs.bind, e2] at h
    | some xs =>
      simp only [Rs.bind, e2] at h
      obtain ⟨o, e3⟩ := lstOf_of e2
      obtain ⟨t2, G2, r2⟩ := froze_all t1 G1 r dj
      rw [e3] at r2
      have k := fz_fk_lst e3
      obtain ⟨p, vs, rfl, hp, rl⟩ := r2.kids k
      exact ⟨p, vs, rfl, .of hp, h _ H1 _ F1 [] t2 G2 List.nodup_nil (fun b hb => nomatch hb) (src_enm r2 k) trivial⟩
theorem si_rev {a : E} {R : L2.It → Hp → Prop} {K : PySem.W.Frag} (h : siT C W M (.rev a) σ H R) : tD C W M a σ H fun x H1 => ∃ p xs, x = .ref p ∧ SqL K H1 p xs ∧ R (Itv K p xs.length) H1 := by
  obtain ⟨S, g, F, G, h⟩ := h
  refine ⟨S, g, F, G, ?_⟩
  unfold itS at h
  cases e : ev M a g with
  | bad => rw [e] at h; exact h
  | exc c fs g1 => rw [e] at h; exact h
  | ok t g1 =>
    rw [e] at h
    intro x H1 S1 F1 Fa t1 G1 r nd dj
    cases e2 : lstOf t.fz with
    | none => simp only [Rs.bind, e2] at h
    | some xs =>
      simp only [Rs.bind, e2] at h
      obtain ⟨o, e3⟩ := lstOf_of e2
      obtain ⟨t2, G2, r2⟩ := froze_all t1 G1 r dj
      rw [e3] at r2
      have k := fz_fk_lst e3
      obtain ⟨p, vs, rfl, hp, rl⟩ := r2.kids k
      exact ⟨p, vs, rfl, .of hp, h _ H1 _ F1 [] t2 G2 List.nodup_nil (fun b hb => nomatch hb) (src_rev rl.length r2 k) trivial⟩
theorem zipS_of {ts xs : List T} (h : zipS ts = some xs) : ∃ o p as bs, ts = [.lst o as, .lst p bs] ∧ xs = zipT as bs := by
  unfold zipS at h
  split at h
  · cases h; exact ⟨_, _, _, _, rfl, rfl⟩
  · cases h
theorem fzL_two {ts : List T} {u v : T} (h : T.fzL ts = [u, v]) : ∃ a b, ts = [a, b] ∧ a.fz = u ∧ b.fz = v := by
  cases ts with
  | nil => cases h
  | cons a ts =>
    cases ts with
    | nil => cases h
    | cons b ts =>
      cases ts with
      | nil => cases h; exact ⟨a, b, rfl, rfl, rfl⟩
      | cons _ _ => cases h
theorem si_zip {es : Es} {R : L2.It → Hp → Prop} {K : PySem.W.Frag} (h : siT C W M (.zip es) σ H R) : tL C W M es σ H fun vs H1 => ∃ a b xs ys, vs = [.ref a, .ref b] ∧ SqL K H1 a xs ∧ SqL K H1 b ys ∧ R (Itz K a b) H1 := by
  obtain ⟨S, g, F, G, h⟩ := h
  refine opnds es S H F g _ G ?_
  unfold itS at h
  cases e : evO M es g with
  | bad => rw [e] at h; exact h
  | exc c fs g1 => rw [e] at h; exact h
  | ok ods g1 =>
    rw [e] at h
    intro vs H1 S1 F1 Fa t1 G1 od na da
    cases e1 : tmps ods with
    | none => simp only [Rs.bind, e1] at h
    | some ts =>
      cases e2 : zipS (T.fzL ts) with
      | none => simp only [Rs.bind, e1, e2] at h
      | some xs =>
        simp only [Rs.bind, e1, e2] at h
        obtain ⟨o, p, as, bs, e3, rfl⟩ := zipS_of e2
        obtain ⟨u, v, rfl, eu, ev⟩ := fzL_two e3
        have rl := ods_vals e1 od
        obtain ⟨x, ws, Fx, Fy, rfl, rfl, rx, y, ws2, Fy1, F0, rfl, rfl, ry, rfl, rfl⟩ := rl
        rw [List.append_nil] at na da t1
        have own1 := Rp.own _ _ _ rx
        have own2 := Rp.own _ _ _ ry
        have hS : ∀ a, S1 a → SF S1 (Fx ++ Fy1) a := fun a z => .inl z
        have G2 := G1.grow (D := Fx ++ Fy1) da fun b hb => (List.mem_append.mp hb).elim (fun z => (own1 b z).2) fun z => (own2 b z).2
        have t2 : Tr S H F (SF S1 (Fx ++ Fy1)) H1 (F1 ++ []) := t1.trans (Tr.froze (fun b hb => by rw [List.append_nil] at hb; exact List.mem_append_left _ hb) fun b hb => List.mem_append_right _ hb)
        have r1 : Rp C (SF S1 (Fx ++ Fy1)) H1 u.fz x [] := Rp.froz hS u x Fx (fun b hb => .inr (List.mem_append_left _ hb)) rx
        have r2 : Rp C (SF S1 (Fx ++ Fy1)) H1 v.fz y [] := Rp.froz hS v y Fy1 (fun b hb => .inr (List.mem_append_right _ hb)) ry
        rw [eu] at r1
        rw [ev] at r2
        have k1 := fz_fk_lst eu
        have k2 := fz_fk_lst ev
        obtain ⟨a, vs1, rfl, ha, _⟩ := r1.kids k1
        obtain ⟨b, vs2, rfl, hb, _⟩ := r2.kids k2
        exact ⟨a, b, vs1, vs2, rfl, .of ha, .of hb, h _ H1 _ F1 [] t2 G2 List.nodup_nil (fun b hb => nomatch hb) (src_zip r1 k1 r2 k2) trivial⟩
theorem ods_rpb {g : Env} {F : List Addr} (G : Good C S H g σ F) : ∀ (ods : List Od) (vs : List V) (Fa : List Addr) (ts : List T), OdRel C S H σ ods vs Fa → getL g ods = some ts → RpB C S H ts vs := by
  intro ods
  induction ods with
  | nil => intro vs Fa ts od e; cases e; exact od.1
  | cons o os ih =>
    intro vs Fa ts od e
    unfold getL at e
    split at e
    · rename_i t us h1 h2
      cases e
      cases o with
      | v i =>
        obtain ⟨x, ws, ev, hx, od⟩ := od
        obtain ⟨y, Fi, hy, r, _⟩ := G.get h1
        rw [hx] at hy
        cases hy
        exact ⟨x, ws, ev, ⟨Fi, r⟩, ih ws Fa us od h2⟩
      | x u =>
        obtain ⟨x, ws, F1, F2, ev, _, r, od⟩ := od
        cases h1
        exact ⟨x, ws, ev, ⟨F1, r⟩, ih ws F2 us od h2⟩
    · cases e
theorem rev_vals {g : Env} {ods : List Od} {vs : List V} {Fa F : List Addr} {ts xs : List T} (G : Good C S H g σ F) (od : OdRel C S H σ ods vs Fa) (e1 : getL g ods = some ts) (e2 : revT ts = some xs) :
    (∃ j : Int, vs = [.int j] ∧ (-(2 ^ 62) ≤ j ∧ j < 2 ^ 62) ∧ xs = (List.range (j - 0).toNat).map fun (k : Nat) => .int ((0 + (((j - 0).toNat : Nat) : Int) - 1) + (k : Nat) * (-1))) ∨
    (∃ i j : Int, vs = [.int i, .int j] ∧ ((-(2 ^ 62) ≤ i ∧ i < 2 ^ 62) ∧ -(2 ^ 62) ≤ j ∧ j < 2 ^ 62) ∧ xs = (List.range (j - i).toNat).map fun (k : Nat) => .int ((i + (((j - i).toNat : Nat) : Int) - 1) + (k : Nat) * (-1))) := by
  have rb := ods_rpb G ods vs Fa ts od e1
  unfold revT at e2
  split at e2
  · split at e2
    · rename_i hj
      cases e2
      obtain ⟨x, F, rfl, rx⟩ := rb.inv1
      exact .inl ⟨_, by rw [rx.1], hj, rfl⟩
    · cases e2
  · split at e2
    · rename_i hj
      cases e2
      obtain ⟨x, y, F, F', rfl, rx, ry⟩ := rb.inv2
      exact .inr ⟨_, _, by rw [rx.1, ry.1], hj, rfl⟩
    · cases e2
  · cases e2
theorem si_rng3 {es : Es} {R : L2.It → Hp → Prop} (h : siT C W M (.rng3 es) σ H R) : tL C W M es σ H fun vs H1 =>
    ∃ (i j c : Int) (n : Nat), vs = [.int i, .int j, .int c] ∧ RgC i j c n ∧ R (Itc i c n) H1 := by
  obtain ⟨S, g, F, G, h⟩ := h
  refine opnds es S H F g _ G ?_
  unfold itS at h
  cases e : evO M es g with
  | bad => rw [e] at h; exact h
  | exc c fs g1 => rw [e] at h; exact h
  | ok ods g1 =>
    rw [e] at h
    intro vs H1 S1 F1 Fa t1 G1 od na da
    cases e1 : getL g1 ods with
    | none => simp only [Rs.bind, e1] at h
    | some ts =>
      cases e2 : rng3T ts with
      | none => simp only [Rs.bind, e1, e2] at h
      | some xs =>
        simp only [Rs.bind, e1, e2] at h
        have t2 : Tr S H F S1 H1 (F1 ++ []) := t1.sub' fun b hb => List.mem_append_left _ (by rw [List.append_nil] at hb; exact hb)
        have rb := ods_rpb G1 ods vs Fa ts od e1
        unfold rng3T at e2
        split at e2
        · rename_i i j c
          split at e2
          · rename_i hj
            cases e2
            obtain ⟨x, y, z, F, F', F2, rfl, rx, ry, rz⟩ := rb.inv3
            refine ⟨i, j, c, _, by rw [rx.1, ry.1, rz.1], ⟨hj.1, hj.2.1, hj.2.2.1, ?_⟩, h _ H1 S1 F1 [] t2 G1 List.nodup_nil (fun b hb => nomatch hb) src_rngC trivial⟩
            have := hj.2.2.2
            omega
          · cases e2
        · cases e2
theorem si_revR {es : Es} {R : L2.It → Hp → Prop} (h : siT C W M (.revR es) σ H R) : tL C W M es σ H fun vs H1 =>
    (∃ j : Int, vs = [.int j] ∧ -(2 ^ 62) ≤ j ∧ j < 2 ^ 62 ∧ R (Itc (0 + (((j - 0).toNat : Nat) : Int) - 1) (-1) (j - 0).toNat) H1) ∨ (∃ i j : Int, vs = [.int i, .int j] ∧ (-(2 ^ 62) ≤ i ∧ i < 2 ^ 62 ∧ -(2 ^ 62) ≤ j ∧ j < 2 ^ 62) ∧ R (Itc (i + (((j - i).toNat : Nat) : Int) - 1) (-1) (j - i).toNat) H1) := by
  obtain ⟨S, g, F, G, h⟩ := h
  refine opnds es S H F g _ G ?_
  unfold itS at h
  cases e : evO M es g with
  | bad => rw [e] at h; exact h
  | exc c fs g1 => rw [e] at h; exact h
  | ok ods g1 =>
    rw [e] at h
    intro vs H1 S1 F1 Fa t1 G1 od na da
    cases e1 : getL g1 ods with
    | none => simp only [Rs.bind, e1] at h
    | some ts =>
      cases e2 : revT ts with
      | none => simp only [Rs.bind, e1, e2] at h
      | some xs =>
        simp only [Rs.bind, e1, e2] at h
        have t2 : Tr S H F S1 H1 (F1 ++ []) := t1.sub' fun b hb => List.mem_append_left _ (by rw [List.append_nil] at hb; exact hb)
        rcases rev_vals G1 od e1 e2 with ⟨j, rfl, hj, rfl⟩ | ⟨i, j, rfl, hj, rfl⟩
        · exact .inl ⟨j, rfl, hj.1, hj.2, h _ H1 S1 F1 [] t2 G1 List.nodup_nil (fun b hb => nomatch hb) src_rngC trivial⟩
        · exact .inr ⟨i, j, rfl, ⟨hj.1.1, hj.1.2, hj.2.1, hj.2.2⟩, h _ H1 S1 F1 [] t2 G1 List.nodup_nil (fun b hb => nomatch hb) src_rngC trivial⟩
theorem rng_vals {g : Env} {ods : List Od} {vs : List V} {Fa F : List Addr} {ts xs : List T} (G : Good C S H g σ F) (od : OdRel C S H σ ods vs Fa) (e1 : getL g ods = some ts) (e2 : rngT ts = some xs) :
    (∃ j : Int, vs = [.int j] ∧ (-(2 ^ 62) ≤ j ∧ j < 2 ^ 62) ∧ xs = (List.range j.toNat).map fun (k : Nat) => .int (0 + (k : Int))) ∨
    (∃ i j : Int, vs = [.int i, .int j] ∧ ((-(2 ^ 62) ≤ i ∧ i < 2 ^ 62) ∧ -(2 ^ 62) ≤ j ∧ j < 2 ^ 62) ∧ xs = (List.range (j - i).toNat).map fun (k : Nat) => .int (i + (k : Int))) := by
  have rel := ods_rpb G
  have rb := rel ods vs Fa ts od e1
  unfold rngT at e2
  split at e2
  · split at e2
    · rename_i hj
      cases e2
      obtain ⟨x, F, rfl, rx⟩ := rb.inv1
      exact .inl ⟨_, by rw [rx.1], hj, rfl⟩
    · cases e2
  · split at e2
    · rename_i hj
      cases e2
      obtain ⟨x, y, F, F', rfl, rx, ry⟩ := rb.inv2
      exact .inr ⟨_, _, by rw [rx.1, ry.1], hj, rfl⟩
    · cases e2
  · cases e2
theorem si_rng {es : Es} {R : L2.It → Hp → Prop} (h : siT C W M (.rng es) σ H R) : tL C W M es σ H fun vs H1 =>
    (∃ j : Int, vs = [.int j] ∧ -(2 ^ 62) ≤ j ∧ j < 2 ^ 62 ∧ R (Itr 0 j.toNat) H1) ∨ (∃ i j : Int, vs = [.int i, .int j] ∧ (-(2 ^ 62) ≤ i ∧ i < 2 ^ 62 ∧ -(2 ^ 62) ≤ j ∧ j < 2 ^ 62) ∧ R (Itr i (j - i).toNat) H1) := by
  obtain ⟨S, g, F, G, h⟩ := h
  refine opnds es S H F g _ G ?_
  unfold itS at h
  cases e : evO M es g with
  | bad => rw [e] at h; exact h
  | exc c fs g1 => rw [e] at h; exact h
  | ok ods g1 =>
    rw [e] at h
    intro vs H1 S1 F1 Fa t1 G1 od na da
    cases e1 : getL g1 ods with
    | none => simp only [Rs.bind, e1] at h
    | some ts =>
      cases e2 : rngT ts with
      | none => simp only [Rs.bind, e1, e2] at h
      | some xs =>
        simp only [Rs.bind, e1, e2] at h
        have t2 : Tr S H F S1 H1 (F1 ++ []) := t1.sub' fun b hb => List.mem_append_left _ (by rw [List.append_nil] at hb; exact hb)
        rcases rng_vals G1 od e1 e2 with ⟨j, rfl, hj, rfl⟩ | ⟨i, j, rfl, hj, rfl⟩
        · exact .inl ⟨j, rfl, hj.1, hj.2, h _ H1 S1 F1 [] t2 G1 List.nodup_nil (fun b hb => nomatch hb) src_rng trivial⟩
        · exact .inr ⟨i, j, rfl, ⟨hj.1.1, hj.1.2, hj.2.1, hj.2.2⟩, h _ H1 S1 F1 [] t2 G1 List.nodup_nil (fun b hb => nomatch hb) src_rng trivial⟩
end Kv

/-! Kv 11: comprehensions; the check of every expression is sound. -/
namespace Kv
open PySem L2
variable {P : Prg} {C : RC} {S S' : Addr → Prop} {H H' : Hp} {X : Cx} {W : WX} {M : Fns} {σ τ : St} {n : Nat} {Z : Nm}

/-! ### slots -/
theorem RpG.slots : ∀ {g : Env} {σ τ : St} {F : List Addr}, RpG C S H g σ F → τ.length = σ.length → (∀ i, g.getD i none ≠ none → τ[i]? = σ[i]?) → RpG C S H g τ F
  | [], σ, τ, F, h, hl, _ => by
    obtain ⟨rfl, e⟩ := h
    exact ⟨List.eq_nil_of_length_eq_zero (by simpa using hl), e⟩
  | none :: g, σ, τ, F, ⟨y, υ, e, h⟩, hl, hs => by
    subst e
    cases τ with
    | nil => simp at hl
    | cons z τ => exact ⟨z, τ, rfl, RpG.slots h (by simpa using hl) fun i hi => by simpa using hs (i + 1) (by simpa using hi)⟩
  | some t :: g, σ, τ, F, ⟨x, υ, F1, F2, e, eF, h1, h2⟩, hl, hs => by
    subst e
    cases τ with
    | nil => simp at hl
    | cons z τ =>
      have e0 : z = some x := by simpa using hs 0 (by simp)
      exact ⟨x, τ, F1, F2, by rw [e0], eF, h1, RpG.slots h2 (by simpa using hl) fun i hi => by simpa using hs (i + 1) (by simpa using hi)⟩
theorem Good.slots {g : Env} {F : List Addr} (G : Good C S H g σ F) (hl : τ.length = σ.length) (hs : ∀ i, g.getD i none ≠ none → τ[i]? = σ[i]?) : Good C S H g τ F := ⟨G.rel.slots hl hs, G.nd, G.sdom⟩
theorem wipe_get (σ : St) : ∀ (is : List Nat) (i : Nat), i ∉ is → (wipe σ is)[i]? = σ[i]?
  | [], i, _ => rfl
  | j :: is, i, h => by
    simp only [List.mem_cons, not_or] at h
    unfold wipe
    rw [List.getElem?_set_ne (fun z => h.1 z.symm), wipe_get σ is i h.2]
theorem wipe_in (σ : St) : ∀ (is : List Nat) (i : Nat), i ∈ is → i < σ.length → (wipe σ is)[i]? = some none
  | j :: is, i, h, hl => by
    unfold wipe
    by_cases e : j = i
    · subst e
      rw [List.getElem?_set_self (by rw [wipe_length]; exact hl)]
    · rw [List.getElem?_set_ne e]
      exact wipe_in σ is i (by simpa [Ne.symm e] using h) hl
theorem wipe_eq {σ τ : St} {is : List Nat} (h : SlotEq is σ τ) : wipe τ is = wipe σ is := by
  refine List.ext_getElem? fun i => ?_
  by_cases hi : i ∈ is
  · by_cases hl : i < σ.length
    · rw [wipe_in τ is i hi (by rw [h.1]; exact hl), wipe_in σ is i hi hl]
    · rw [List.getElem?_eq_none (by rw [wipe_length, h.1]; omega), List.getElem?_eq_none (by rw [wipe_length]; omega)]
  · rw [wipe_get _ _ _ hi, wipe_get _ _ _ hi, h.2 i hi]
theorem wipe_slot {σ : St} {is : List Nat} : SlotEq is σ (wipe σ is) := ⟨wipe_length σ is, fun j hj => wipe_get σ is j hj⟩
theorem wipe_wipe {σ : St} {is : List Nat} : wipe (wipe σ is) is = wipe σ is := wipe_eq wipe_slot
theorem wipeE_none : ∀ (g : Env) (is : List Nat) (i : Nat), i ∈ is → (wipeE g is).getD i none = none
  | g, j :: is, i, h => by
    unfold wipeE
    rw [getD_set]
    by_cases e : j = i
    · by_cases hl : j < (wipeE g is).length
      · rw [if_pos ⟨e, hl⟩]
      · rw [if_neg (fun z => hl z.2), List.getD_eq_getElem?_getD, List.getElem?_eq_none (by omega)]
        rfl
    · rw [if_neg (fun z => e z.1)]
      exact wipeE_none g is i (by simpa [Ne.symm e] using h)
theorem Good.wipeE {g : Env} {F : List Addr} (G : Good C S H g σ F) : ∀ is : List Nat, ∃ F', Good C S H (wipeE g is) σ F' ∧ ∀ b ∈ F', b ∈ F
  | [] => ⟨F, G, fun b hb => hb⟩
  | i :: is => by
    obtain ⟨F1, G1, a1⟩ := Good.wipeE G is
    by_cases hi : i < (Kv.wipeE g is).length
    · obtain ⟨Fr, Fi, _, G2, _, _, hm⟩ := G1.take hi
      exact ⟨Fr, G2, fun b hb => a1 b ((hm b).mpr (.inl hb))⟩
    · refine ⟨F1, ?_, a1⟩
      show Good C S H ((Kv.wipeE g is).set i none) σ F1
      rw [List.set_eq_of_length_le (by omega)]
      exact G1
mutual
theorem T.shr_fz : ∀ t : T, t.shr = true → t.fz = t
  | .lst o xs, h => by
    have h' : o = false ∧ T.shrL xs = true := by simpa [T.shr] using h
    simp only [T.fz, T.shrL_fz xs h'.2, h'.1]
  | .tup xs, h => by
    have h' : T.shrL xs = true := by simpa [T.shr] using h
    simp only [T.fz, T.shrL_fz xs h']
  | .non, _ => rfl
  | .bl _, _ => rfl
  | .int _, _ => rfl
  | .str _, _ => rfl
  | .scr _, _ => rfl
  | .dic _, _ => rfl
  | .exc _ _, _ => rfl
theorem T.shrL_fz : ∀ ts : List T, T.shrL ts = true → T.fzL ts = ts
  | [], _ => rfl
  | t :: ts, h => by
    have h' : t.shr = true ∧ T.shrL ts = true := by simpa [T.shrL] using h
    simp only [T.fzL, T.shr_fz t h'.1, T.shrL_fz ts h'.2]
end
/-- the slots of a comprehension as they were, behind it -/
theorem Good.backE {g0 g : Env} {F : List Addr} (G : Good C S H g σ F) (hl : g0.length = g.length) (h0 : ∀ i t, g0.getD i none = some t → t.shr = true → ∃ x, σ.getD i none = some x ∧ Rp C S H t x []) : ∀ is : List Nat, ∃ F', Good C S H (backE g0 g is) σ F' ∧ (backE g0 g is).length = g.length ∧ ∀ b ∈ F', b ∈ F
  | [] => ⟨F, G, rfl, fun b hb => hb⟩
  | i :: is => by
    obtain ⟨F1, G1, l1, a1⟩ := Good.backE G hl h0 is
    unfold Kv.backE
    cases e : g0.getD i none with
    | none => exact ⟨F1, G1, l1, a1⟩
    | some t =>
      show ∃ F', Good C S H (if t.shr = true then (Kv.backE g0 g is).set i (some t) else Kv.backE g0 g is) σ F' ∧ (if t.shr = true then (Kv.backE g0 g is).set i (some t) else Kv.backE g0 g is).length = g.length ∧ ∀ b ∈ F', b ∈ F
      by_cases hs : t.shr = true
      · rw [if_pos hs]
        obtain ⟨x, ex, r⟩ := h0 i t e hs
        obtain ⟨F2, G2, a2, _⟩ := G1.put (i := i) (by rw [l1, ← hl]; exact getD_lt e) (o := some t) (y := σ.getD i none) (Fi := []) ⟨x, ex, r⟩ List.nodup_nil (fun b hb => nomatch hb)
        rw [set_getD] at G2
        exact ⟨F2, G2, by rw [List.length_set, l1], fun b hb => (a2 b hb).elim (a1 b) fun z => nomatch z⟩
      · rw [if_neg hs]
        exact ⟨F1, G1, l1, a1⟩
theorem wipeE_len (g : Env) : ∀ is : List Nat, (wipeE g is).length = g.length
  | [] => rfl
  | i :: is => by rw [Kv.wipeE, List.length_set, wipeE_len g is]
/-- how the turns of a comprehension go -/
def compTurn (M : Fns) (cond elt : E) (g : Env) : Rs (Option T) := (ev M cond g).bind fun b g => match b with
  | .bl true => (ev M elt g).bind fun y g => .ok (some y) g
  | .bl false => .ok none g
  | _ => .bad
theorem tail_nil {F : List Addr} : Tr S H F S H (F ++ []) := Tr.refl.sub' fun b hb => by rw [List.append_nil] at hb; exact hb
/-- an exception can't come out of a comprehension -/
abbrev W0 : WX := fun _ _ _ _ => False
theorem compL_exc {put : T → Env → Option Env} {own : List Nat} {f : Env → Rs (Option T)} : ∀ (ts acc : List T) (g g2 : Env) (c : Nat) (fs : List T), compL put own f ts acc g ≠ .exc c fs g2
  | [], acc, g, g2, c, fs => by unfold compL; intro h; cases h
  | t :: ts, acc, g, g2, c, fs => by
    unfold compL
    split
    · intro h; cases h
    · split
      · exact compL_exc ts acc _ g2 c fs
      · split
        · exact compL_exc ts _ _ g2 c fs
        · intro h; cases h
      · intro h; cases h
/-- a list of one's own is written -/
theorem stays_upd {D : Addr} {F : List Addr} {vs ws : List V} (hS : ¬ S D) (hF : D ∉ F) (hD : H D = some (.lst vs)) : Stays S F H (upd H D (.lst ws)) := fun b o e z => by
  by_cases hb : b = D
  · subst hb
    rcases z with z | z | z
    · exact (hS z).elim
    · exact (hF z).elim
    · rw [hD] at e
      exact (z vs (Option.some.inj e).symm).elim
  · rw [upd_ne hb]; exact e
theorem Good.upd {g : Env} {F : List Addr} {D : Addr} {vs ws : List V} (G : Good C S H g σ F) (hS : ¬ S D) (hF : D ∉ F) (hD : H D = some (.lst vs)) : Good C S (upd H D (.lst ws)) g σ F :=
  G.stay (fun _ z => z) (stays_upd hS hF hD) (fun b hb => (G.own b hb).1) fun a z => by
    obtain ⟨ys, e⟩ := G.sdom a z
    exact ⟨ys, by rw [upd_ne (fun (q : a = D) => hS (by rw [← q]; exact z))]; exact e⟩
theorem Tr.upd {F : List Addr} {D : Addr} {ws : List V} (hF : D ∈ F) : Tr S H F S (L2.upd H D (.lst ws)) F where
  sub := fun _ z => z
  keep := fun b o e n => by rw [upd_ne (fun (q : b = D) => n (by rw [q]; exact hF))]; exact e
  newS := fun _ z => .inl z
  newF := fun _ z => .inl z
  dom := fun b z => by
    by_cases hb : b = D
    · subst hb; rw [upd_same] at z; cases z
    · rw [upd_ne hb] at z; exact z
theorem app_rp {acc : List T} {y : T} {D : Addr} {v : V} {Fa Fy : List Addr} (r : Rp C S H (.lst true acc) (.ref D) Fa) (nd : Fa.Nodup) (ry : Rp C S H y v Fy) (dy : Dj Fy Fa) :
    ∃ vs, H D = some (.lst vs) ∧ vs.length = acc.length ∧ D ∈ Fa ∧ ¬ S D ∧ Rp C S (upd H D (.lst (vs ++ [v]))) (.lst true (acc ++ [y])) (.ref D) (Fa ++ Fy) := by
  obtain ⟨a, vs, F', ea, ha, rl, hs, e⟩ := r
  cases ea
  subst e
  obtain ⟨n1, n2⟩ := List.nodup_cons.mp nd
  have hDy : D ∉ Fy := fun z => dy D z List.mem_cons_self
  have k1 : Stays S F' H (upd H D (.lst (vs ++ [v]))) := stays_upd hs n1 ha
  have k2 : Stays S Fy H (upd H D (.lst (vs ++ [v]))) := stays_upd hs hDy ha
  have r1 := RpL.stay (fun _ z => z) acc vs F' k1 (fun b hb => (RpL.own _ _ _ rl b hb).1) rl
  have r2 := Rp.stay (fun _ z => z) y v Fy k2 (fun b hb => (Rp.own _ _ _ ry b hb).1) ry
  have r3 : RpL C S (upd H D (.lst (vs ++ [v]))) [y] [v] Fy := ⟨v, [], Fy, [], rfl, by rw [List.append_nil], r2, rfl, rfl⟩
  exact ⟨vs, ha, rl.length, List.mem_cons_self, hs, D, vs ++ [v], F' ++ Fy, rfl, upd_same, RpL.append r1 r3, hs, rfl⟩
theorem drop_cons {α : Type} {xs : List α} {i : Nat} (h : i < xs.length) : xs.drop i = xs[i] :: xs.drop (i + 1) := List.drop_eq_getElem_cons h
theorem td_comp {tg : Tg} {it : Kv.It} {cond elt : E} {Q : VK} (h : tD C W M (.comp tg it cond elt) σ H Q) : tLc (siT C W M it) (tgT C.K tg) (tB (tD C W0 M cond)) (tD C W0 M elt) tg.slots σ H Q := by
  obtain ⟨S, g, F, G, h⟩ := h
  refine ⟨S, g, F, G, ?_⟩
  unfold ev at h
  cases e : itS M it g with
  | bad => rw [e] at h; exact h
  | exc c fs g1 => rw [e] at h; exact h
  | ok p g1 =>
    rw [e] at h
    intro J H1 S1 F1 Fl t1 G1 nl dl src back D hD
    have h' : outE C W σ S H F (if inBack p.2 tg.slots = true then Rs.bad else (compL (fun t g => tg.put t [] g) tg.slots (compTurn M cond elt) p.1 [] (wipeE g1 tg.slots)).bind fun ys g2 => .ok (.lst true ys) (unIt p.2 (backE g1 g2 tg.slots))) Q := h
    by_cases hb : inBack p.2 tg.slots = true
    · rw [if_pos hb] at h'; exact h'.elim
    rw [if_neg hb] at h'
    have own1 := G1.own
    -- what is wanted of the turns' end
    let Fin : Rs (List T) → Prop := fun r => match r with
      | .ok ys g2 => ∀ H2 S2 F2 F3, Tr S1 H1 F1 S2 H2 (F2 ++ F3) → Good C S2 H2 g2 (wipe σ tg.slots) F2 → (∀ i ∈ tg.slots, g2.getD i none = none) → g2.length = g1.length → Rp C S2 H2 (.lst true ys) (.ref D) F3 → F3.Nodup → Dj F3 F2 → Q (.ref D) H2
      | _ => False
    have fin : Fin (compL (fun t g => tg.put t [] g) tg.slots (compTurn M cond elt) p.1 [] (wipeE g1 tg.slots)) := by
      cases e2 : compL (fun t g => tg.put t [] g) tg.slots (compTurn M cond elt) p.1 [] (wipeE g1 tg.slots) with
      | bad => rw [e2] at h'; exact h'
      | exc c fs g2 => exact (compL_exc _ _ _ _ _ _ e2).elim
      | ok ys g2 =>
        rw [e2] at h'
        intro H2 S2 F2 F3 t2 G2 hn hl2 r2 n3 d3
        have Gs : Good C S2 H2 g2 σ F2 := G2.slots (by rw [wipe_length]) fun i hi => by
          by_cases hio : i ∈ tg.slots
          · exact absurd (hn i hio) hi
          · exact (wipe_get σ tg.slots i hio).symm
        have hr0 : ∀ i t, g1.getD i none = some t → t.shr = true → ∃ x, σ.getD i none = some x ∧ Rp C S2 H2 t x [] := fun i t ei hs => by
          obtain ⟨x, Fi, hx, r, _, _⟩ := G1.get ei
          have e0 : Fi = [] := Rp.fz_nil t x Fi (T.shr_fz t hs) r
          subst e0
          refine ⟨x, by rw [List.getD_eq_getElem?_getD, hx]; rfl, ?_⟩
          exact t2.rp own1 (fun b hb => nomatch hb) r
        obtain ⟨F4, G4, l4, a4⟩ := Gs.backE (g0 := g1) hl2.symm hr0 tg.slots
        have nf := t2.noF dl src.own
        have t3 := (t1.trans t2.aside)
        have hq : outE C W σ S H F (.ok (.lst true ys) (unIt p.2 (backE g1 g2 tg.slots))) Q := h'
        have dF : Dj F3 F4 := fun b hb hf => d3 b hb (a4 b hf)
        cases ep : p.2 with
        | none =>
          rw [ep] at hq
          refine hq (.ref D) H2 S2 F4 F3 (t3.sub' fun b hb => List.mem_append_left _ ?_) G4 r2 n3 dF
          exact (List.mem_append.mp hb).elim (fun z => List.mem_append_left _ (a4 b z)) fun z => List.mem_append_right _ z
        | some it =>
          obtain ⟨i, t⟩ := it
          rw [ep] at hq back
          obtain ⟨x, hx, rx⟩ := back
          have rx2 := t2.rp own1 dl rx
          have hi : i < (backE g1 g2 tg.slots).length := by
            rw [← G4.len]
            exact (List.getElem?_eq_some_iff.mp hx).1
          obtain ⟨F5, G5, a5, _⟩ := G4.put (i := i) hi (o := some t) (y := σ.getD i none) (Fi := Fl) ⟨x, by rw [List.getD_eq_getElem?_getD, hx]; rfl, rx2⟩ nl fun b hb hf => nf b hb (List.mem_append_left _ (a4 b hf))
          rw [set_getD] at G5
          refine hq (.ref D) H2 S2 F5 F3 (t3.sub' fun b hb => ?_) G5 r2 n3 fun b hb hf => ?_
          · rcases List.mem_append.mp hb with z | z
            · rcases a5 b z with z | z
              · exact List.mem_append_left _ (List.mem_append_left _ (a4 b z))
              · exact List.mem_append_right _ z
            · exact List.mem_append_left _ (List.mem_append_right _ z)
          · rcases a5 b hf with z | z
            · exact dF b hb z
            · exact nf b z (List.mem_append_right _ hb)
    clear h' h
    refine ⟨fun i m H3 => m = p.1.length - i ∧ ∃ S3 g3 F3 acc Fa, Tr S1 H1 F1 S3 H3 (F3 ++ Fa) ∧ Good C S3 H3 g3 (wipe σ tg.slots) F3 ∧ (∀ j ∈ tg.slots, g3.getD j none = none) ∧ g3.length = g1.length ∧ Rp C S3 H3 (.lst true acc) (.ref D) Fa ∧ Fa.Nodup ∧ Dj Fa F3 ∧
      Fin (compL (fun t g => tg.put t [] g) tg.slots (compTurn M cond elt) (p.1.drop i) acc g3), ⟨p.1.length, ?_⟩, ?_⟩
    · obtain ⟨Fw, Gw, aw⟩ := G1.wipeE tg.slots
      have k : Same H1 (upd H1 D (.lst [])) := fun b x e => by rw [upd_ne (ne_of_none e hD)]; exact e
      obtain ⟨_, fr, nd, rD⟩ := rp_new (C := C) (S := S1) (H := H1) (xs := []) (vs := []) RpL.nil' G1.sdom hD
      have Gt : Good C S1 (upd H1 D (.lst [])) (wipeE g1 tg.slots) (wipe σ tg.slots) Fw := (Gw.same k).slots (wipe_length σ _) fun j hj => by
        by_cases hjo : j ∈ tg.slots
        · exact absurd (wipeE_none g1 tg.slots j hjo) hj
        · exact wipe_get σ tg.slots j hjo
      refine ⟨by simp, S1, wipeE g1 tg.slots, Fw, [], [D], (Tr.alloc k fr).sub' fun b hb => (List.mem_append.mp hb).elim (fun z => List.mem_append_left _ (aw b z)) fun z => List.mem_append_right _ z, Gt, wipeE_none g1 tg.slots, wipeE_len g1 _, rD, nd, fun b hb hf => ?_, by rw [List.drop_zero]; exact fin⟩
      obtain ⟨_, ys, e⟩ := Gw.own b hf
      rw [fr b hb] at e; cases e
    · rintro i m H3 ⟨rfl, S3, g3, F3, acc, Fa, t3, G3, hn3, hl3, r3, n3, d3, f3⟩
      obtain ⟨hgo, hstop, hyld⟩ := src.run S3 H3 t3.sub (t3.stays own1 dl) (t3.noS dl src.own)
      by_cases hi : i < p.1.length
      · refine .inr ⟨hgo i hi, fun H' => ∃ S4 g4 F4 acc Fa, Tr S1 H1 F1 S4 H' (F4 ++ Fa) ∧ Good C S4 H' g4 (wipe σ tg.slots) F4 ∧ (∀ j ∈ tg.slots, g4.getD j none = none) ∧ g4.length = g1.length ∧ Rp C S4 H' (.lst true acc) (.ref D) Fa ∧ Fa.Nodup ∧ Dj Fa F4 ∧
          Fin (compL (fun t g => tg.put t [] g) tg.slots (compTurn M cond elt) (p.1.drop (i + 1)) acc g4), fun H' hN => ⟨_, by omega, rfl, hN⟩, fun x H4 hy => ?_⟩
        rw [drop_cons hi] at f3
        obtain ⟨k4, rx⟩ := hyld i x H4 hy _ (List.getElem?_eq_getElem hi)
        unfold compL at f3
        cases e3 : tg.put p.1[i] [] g3 with
        | none => simp only [e3] at f3; exact f3.elim
        | some g4 =>
          simp only [e3] at f3
          have G3' := G3.same k4
          have r3' : Rp C S3 H4 (.lst true acc) (.ref D) Fa := Rp.stay (fun _ z => z) _ _ _ (fun b o e _ => k4 b o e) (fun b hb => (Rp.own _ _ _ r3 b hb).1) r3
          obtain ⟨S5, σ5, F5, t5, G5, _, sl5, q5⟩ := tgt_ok G3' rx List.nodup_nil (fun b hb => nomatch hb) e3
          have t5' : Tr S3 H4 F3 S5 H4 F5 := t5.more fun b hb => by rw [List.append_nil] at hb; exact hb
          have r5 := t5'.rp G3'.own d3 r3'
          have d5 : Dj Fa F5 := t5'.noF d3 (Rp.own _ _ _ r3')
          have hw : wipe σ5 tg.slots = wipe σ tg.slots := (wipe_eq sl5).trans wipe_wipe
          have T5 : Tr S1 H1 F1 S5 H4 (F5 ++ Fa) := (t3.trans ((Tr.alloc (F1 := []) k4 fun b hb => nomatch hb).sub' fun b hb => List.mem_append_left _ hb)).trans t5'.aside
          have hl5 : g4.length = g3.length := by rw [← G5.len, sl5.1, G3.len]
          -- behind a part of the turn: the block's own slots are forgotten
          have back6 : ∀ {S6 : Addr → Prop} {H6 : Hp} {g6 : Env} {F6 : List Addr}, Good C S6 H6 g6 σ5 F6 → ∃ F7, Good C S6 H6 (wipeE g6 tg.slots) (wipe σ tg.slots) F7 ∧ (∀ b ∈ F7, b ∈ F6) ∧ (wipeE g6 tg.slots).length = g1.length := by
            intro S6 H6 g6 F6 G6
            obtain ⟨F7, G7, a7⟩ := G6.wipeE tg.slots
            refine ⟨F7, G7.slots (by rw [← hw, wipe_length]) fun j hj => ?_, a7, by rw [wipeE_len, ← G6.len, sl5.1, wipe_length, ← hl3, ← G3.len, wipe_length]⟩
            by_cases hjo : j ∈ tg.slots
            · exact absurd (wipeE_none g6 tg.slots j hjo) hj
            · rw [← hw, wipe_get _ _ _ hjo]
          refine q5 _ ⟨hw, S5, g4, F5, G5, ?_⟩
          unfold compTurn at f3
          cases e6 : ev M cond g4 with
          | bad => simp only [e6, Rs.bind] at f3; exact f3.elim
          | exc c fs g6 => simp only [e6, Rs.bind] at f3; exact f3.elim
          | ok b g6 =>
            simp only [e6, Rs.bind] at f3
            intro xb H6 S6 F6 Fb t6 G6 rb nb db
            have t6' : Tr S5 H4 F5 S6 H6 F6 := t6.sub' fun b hb => List.mem_append_left _ hb
            have r6 := t6'.rp G5.own d5 r5
            have d6 : Dj Fa F6 := t6'.noF d5 (Rp.own _ _ _ r5)
            have T6 : Tr S1 H1 F1 S6 H6 (F6 ++ Fa) := T5.trans t6'.aside
            cases b <;> first | exact f3.elim | skip
            rename_i bb
            cases bb with
            | false =>
              refine ⟨false, rb.1, iteF ?_⟩
              obtain ⟨F7, G7, a7, l7⟩ := back6 G6
              exact ⟨S6, wipeE g6 tg.slots, F7, acc, Fa, T6.sub' fun b hb => (List.mem_append.mp hb).elim (fun z => List.mem_append_left _ (a7 b z)) fun z => List.mem_append_right _ z, G7, wipeE_none g6 tg.slots, l7, r6, n3, fun b hb hf => d6 b hb (a7 b hf), f3⟩
            | true =>
              refine ⟨true, rb.1, iteT ⟨S6, g6, F6, G6, ?_⟩⟩
              cases e7 : ev M elt g6 with
              | bad => simp only [e7] at f3; exact f3.elim
              | exc c fs g7 => simp only [e7] at f3; exact f3.elim
              | ok yt g7 =>
                simp only [e7] at f3
                intro y H7 S7 F7 Fy t7 G7 ry ny dy
                have t7' : Tr S6 H6 F6 S7 H7 F7 := t7.sub' fun b hb => List.mem_append_left _ hb
                have r7 := t7'.rp G6.own d6 r6
                have nf7 := t7.noF d6 (Rp.own _ _ _ r6)
                have dya : Dj Fy Fa := fun b hb hf => nf7 b hf (List.mem_append_right _ hb)
                have d7 : Dj Fa F7 := fun b hb hf => nf7 b hb (List.mem_append_left _ hf)
                obtain ⟨vs, hD7, hlen, hDa, hDS, r8⟩ := app_rp r7 n3 ry dya
                by_cases hz : acc.length < sizeLine
                · rw [if_pos hz] at f3
                  refine ⟨vs, hD7, by rw [hlen]; exact hz, ?_⟩
                  have G8 := G7.upd (ws := vs ++ [y]) hDS (d7 D hDa) hD7
                  obtain ⟨F9, G9, a9, l9⟩ := back6 G8
                  have T8 : Tr S1 H1 F1 S7 (upd H7 D (.lst (vs ++ [y]))) ((F7 ++ Fy) ++ Fa) := (T6.trans t7.aside).trans (Tr.upd (List.mem_append_right _ hDa))
                  refine ⟨S7, wipeE g7 tg.slots, F9, acc ++ [yt], Fa ++ Fy, T8.sub' fun b hb => ?_, G9, wipeE_none g7 tg.slots, l9, r8, dya.symm.nd n3 ny, fun b hb hf => ?_, f3⟩
                  · rcases List.mem_append.mp hb with z | z
                    · exact List.mem_append_left _ (List.mem_append_left _ (a9 b z))
                    · rcases List.mem_append.mp z with z | z
                      · exact List.mem_append_right _ z
                      · exact List.mem_append_left _ (List.mem_append_right _ z)
                  · rcases List.mem_append.mp hb with z | z
                    · exact d7 b z (a9 b hf)
                    · exact dy b z (a9 b hf)
                · rw [if_neg hz] at f3; exact f3.elim
      · have e0 : p.1.drop i = [] := List.drop_eq_nil_of_le (by omega)
        rw [e0] at f3
        exact .inl ⟨hstop i (by omega), f3 H3 S3 F3 Fa t3 G3 hn3 hl3 r3 n3 d3⟩
end Kv

/-! Kv 12: the check of every expression is sound. -/
namespace Kv
open PySem L2
variable {P : Prg} {C : RC} {S S' : Addr → Prop} {H H' : Hp} {X : Cx} {W : WX} {M : Fns} {σ τ : St} {n : Nat} {Z : Nm}

theorem loc_of (c : Ctx P C M n Z W X) {x : Str} (h : locB Z x = true) : Loc X.env.scope x ∧ (X.fn x = true ∨ X.env.scope.names.lookup x = some .local) := by
  unfold locB at h
  rw [← c.sc] at h
  split at h
  · rename_i e
    exact ⟨.inl e, .inr e⟩
  · rename_i e
    exact ⟨.inr e, .inl (by rw [c.fn]; exact h)⟩
  · cases h
theorem pg_one (c : Ctx P C M n Z W X) {e : Expr} {i : Nat} (h : isLoc Z e i = true) : PG X e (gName i) := by
  unfold isLoc at h
  split at h
  · simp only [Bool.and_eq_true, decide_eq_true_eq] at h
    obtain ⟨l1, l2⟩ := loc_of c h.2
    exact pg_name c.nd (by rw [c.hN]; exact h.1) l1 l2
  · cases h
theorem isLoc_name {e : Expr} {i : Nat} (h : isLoc Z e i = true) : ∃ x p, e = .Name x p := by
  unfold isLoc at h
  split at h
  · exact ⟨_, _, rfl⟩
  · cases h
theorem pgs_all (c : Ctx P C M n Z W X) : ∀ (es : List Expr) (is : List Nat), areLoc Z es is = true → PGs X es (gsN is) ∧ (assignEach es X.env).length = is.length ∧ (assignEach es X.env).findIdx? (·.1) = none
  | [], [], _ => ⟨pgs_nil, rfl, rfl⟩
  | e :: es, i :: is, h => by
    have h' : isLoc Z e i = true ∧ areLoc Z es is = true := by simpa [areLoc] using h
    obtain ⟨x, p, rfl⟩ := isLoc_name h'.1
    obtain ⟨q1, q2, q3⟩ := pgs_all c es is h'.2
    refine ⟨pgs_cons (pg_one c h'.1) q1 rfl, ?_, ?_⟩
    · show (assignEach es X.env).length + 1 = is.length + 1
      rw [q2]
    · show List.findIdx? (·.1) ((false, assign (.Name x p) X.env) :: assignEach es X.env) = none
      rw [List.findIdx?_cons, q3] <;> rfl
  | [], _ :: _, h => by cases h
  | _ :: _, [], h => by cases h
theorem pg_tg (c : Ctx P C M n Z W X) (hc : X.calm = true) {e : Expr} {tg : Tg} (h : chkTg Z e tg = true) : PG X e (tgT X.K tg) := by
  cases tg with
  | one i => exact pg_one c h
  | many is =>
    unfold chkTg at h
    simp only at h
    split at h
    · obtain ⟨q1, q2, q3⟩ := pgs_all c _ _ h
      exact pg_tup hc q1 q2 q3
    · cases h
theorem own_slots : ∀ (es : List Expr) (is : List Nat), areLoc Z es is = true → (ownN es is).map (·.2) = is
  | [], [], _ => rfl
  | e :: es, i :: is, h => by
    have h' : isLoc Z e i = true ∧ areLoc Z es is = true := by simpa [areLoc] using h
    obtain ⟨x, p, rfl⟩ := isLoc_name h'.1
    show i :: (ownN es is).map (·.2) = i :: is
    rw [own_slots es is h'.2]
  | [], _ :: _, h => by cases h
  | _ :: _, [], h => by cases h
theorem tg_slots {e : Expr} {tg : Tg} (h : chkTg Z e tg = true) : (tgOwn e tg).map (·.2) = tg.slots := by
  cases tg with
  | one i =>
    refine own_slots (Z := Z) [e] [i] ?_
    show (isLoc Z e i && areLoc Z [] []) = true
    rw [show isLoc Z e i = true from h] <;> rfl
  | many is =>
    unfold chkTg at h
    simp only at h
    split at h
    · exact own_slots _ _ h
    · cases h
theorem set_fold {iter : Expr} (h : notSet iter = true) (env : PySem.Env) : ∀ x, foldedSetIterable iter env x = pure x := by
  intro x
  cases iter <;> first
    | rfl
    | cases h
theorem pi_rng {tg : Expr} {as : List Expr} {f : Str} {p pos : Pos} {t : TA} {w : TI} (e1 : f = ("range" : Str)) (hg : Gl X f) (hm : X.mg f = none) (ha : PA X as t) (hl : as.length = 1 ∨ as.length = 2) (hs : ∀ a r, as = a :: r → notStar a = true) (hs2 : ∀ a b, as = [a, b] → notStar b = true)
    (m : ∀ (σ : St) (H : Hp) (Q Q' : List V → Hp → Prop), (∀ x H', Q x H' → Q' x H') → t σ H Q → t σ H Q')
    (ml : ∀ (σ : St) (H : Hp) (Q : List V → Hp → Prop), t σ H Q → t σ H fun vs H' => Q vs H' ∧ vs.length = as.length)
    (k : ∀ σ H R, w σ H R → t σ H fun vs H1 => (∃ j : Int, vs = [.int j] ∧ -(2 ^ 62) ≤ j ∧ j < 2 ^ 62 ∧ R (Itr 0 j.toNat) H1) ∨ (∃ i j : Int, vs = [.int i, .int j] ∧ (-(2 ^ 62) ≤ i ∧ i < 2 ^ 62 ∧ -(2 ^ 62) ≤ j ∧ j < 2 ^ 62) ∧ R (Itr i (j - i).toNat) H1)) : PI X tg (.Call (.Name f p) as [] pos) w := by
  subst e1
  match as, hl, ha, hs, hs2, ml with
  | [a], _, ha, hs, _, ml =>
    refine pi_imp (pi_range1 hg hm ha (star_of (hs a [] rfl) [] X.env)) fun σ H R q => m σ H _ _ (fun vs H1 z => ?_) (ml σ H _ (k σ H R q))
    obtain ⟨z, zl⟩ := z
    rcases z with ⟨j, e, z⟩ | ⟨i, j, e, z⟩
    · exact ⟨j, e, z⟩
    · subst e; cases zl
  | [a, b], _, ha, hs, hs2, ml =>
    refine pi_imp (pi_range2 hg hm ha ?_ ?_) fun σ H R q => m σ H _ _ (fun vs H1 z => ?_) (ml σ H _ (k σ H R q))
    · rw [star_of (hs a [b] rfl), star_of (hs2 a b rfl)] <;> rfl
    · rw [star_of (hs2 a b rfl)] <;> rfl
    obtain ⟨z, zl⟩ := z
    rcases z with ⟨j, e, z⟩ | ⟨i, j, e, z⟩
    · subst e; cases zl
    · exact ⟨i, j, e, z⟩
  | [], hl, _, _, _, _ => rcases hl with h | h <;> cases h
  | _ :: _ :: _ :: _, hl, _, _, _, _ => rcases hl with h | h <;> cases h
/-- what is walked -/
theorem isTup_of {e : Expr} (h : isTup e = true) : ∃ a b c, e = .Tuple a b c := by
  cases e <;> first | (cases h; done) | exact ⟨_, _, _, rfl⟩
theorem itTup_of {it : Kv.It} {tg : Expr} (h : (!itTup it || isTup tg) = true) (k : itTup it = true) : ∃ a b c, tg = .Tuple a b c := by
  rw [k] at h
  exact isTup_of (by simpa using h)
theorem sound_It {K : Nat} (ih : Below P C M n K) {k : Nat} (hk : k < K) (c : Ctx P C M n Z W X) {tg e : Expr} {it : Kv.It} (h : (!itTup it || isTup tg) = true ∧ chkIt P Z k e it = true) : PI X tg e (siT C W M it) ∧ notSet e = true := by
  obtain ⟨ht, h⟩ := h
  cases k with
  | zero => cases h
  | succ k =>
    unfold chkIt at h
    simp only [Bool.and_eq_true] at h
    refine ⟨?_, h.1⟩
    replace h := h.2
    cases it with
    | e a => exact pi_imp (pi_seq ((ih k (by omega) Z W X c).1 _ _ h)) fun σ H R q => si_e q
    | v i => exact pi_imp (pi_seq (c.nm h)) fun σ H R q => si_v q
    | rng es =>
      simp only at h
      split at h
      · rename_i f p as pos
        simp only [Bool.and_eq_true, Bool.or_eq_true, decide_eq_true_eq] at h
        obtain ⟨⟨⟨⟨h1, h2⟩, h3⟩, h4⟩, h5⟩ := h
        refine pi_rng h1 (c.gl h2) (c.bi f h3) (args_ok ih c k as es (by omega) h5) h4 (fun a r e => ?_) (fun a b e => ?_) (ta_mono es) (fun σ H Q q => by rw [← chkA_lenK k as es h5]; exact tL_lenK es σ H Q q) fun σ H R q => si_rng q
        · subst e
          obtain ⟨_, _, _, _, _, _, _, ns, _⟩ := opd_cons ih (by omega : k < K) c h5
          exact ns
        · subst e
          obtain ⟨_, es', k', _, _, h6, l6, _, _⟩ := opd_cons ih (by omega : k < K) c h5
          obtain ⟨_, _, _, _, _, _, _, ns, _⟩ := opd_cons ih l6 c h6
          exact ns
      · cases h
    | enm x =>
      simp only at h
      split at h
      · rename_i f p y pos
        simp only [Bool.and_eq_true, decide_eq_true_eq] at h
        obtain ⟨⟨⟨rfl, h2⟩, h3⟩, h4⟩ := h
        obtain ⟨_, _, _, rfl⟩ := itTup_of ht rfl
        have ns := chkE_star h4
        have pe := (ih k (by omega) Z W X c).1 _ _ h4
        refine pi_imp (pi_enum (c.gl h2) (c.bi _ h3) (pa_cons pe pa_nil (star_of ns _ _)) (by rw [star_of ns] <;> rfl)) fun σ H R q => ?_
        exact mono_tD σ H _ _ (fun x H1 ⟨p, xs, e, z⟩ => ⟨p, xs, by rw [e], z⟩) (si_enm q)
      · cases h
    | rev x =>
      simp only at h
      split at h
      · rename_i f p y pos
        simp only [Bool.and_eq_true, decide_eq_true_eq] at h
        obtain ⟨⟨⟨rfl, h2⟩, h3⟩, h4⟩ := h
        have ns := chkE_star h4
        have pe := (ih k (by omega) Z W X c).1 _ _ h4
        refine pi_imp (pi_reversed (c.gl h2) (c.bi _ h3) (pa_cons pe pa_nil (star_of ns _ _)) (by rw [star_of ns] <;> rfl)) fun σ H R q => ?_
        exact mono_tD σ H _ _ (fun x H1 ⟨p, xs, e, z⟩ => ⟨p, xs, by rw [e], z⟩) (si_rev q)
      · cases h
    | zip es =>
      simp only at h
      split at h
      · rename_i f p y z pos
        simp only [Bool.and_eq_true, decide_eq_true_eq] at h
        obtain ⟨⟨⟨rfl, h2⟩, h3⟩, h4⟩ := h
        obtain ⟨_, _, _, rfl⟩ := itTup_of ht rfl
        obtain ⟨_, _, _, _, _, h6, l6, ns, _⟩ := opd_cons ih (by omega : k < K) c h4
        obtain ⟨_, _, _, _, _, _, _, ns2, _⟩ := opd_cons ih l6 c h6
        exact pi_imp (pi_zip (c.gl h2) (c.bi _ h3) (args_ok ih c k _ es (by omega) h4) (by rw [star_of ns] <;> rfl) (by rw [star_of ns2] <;> rfl)) fun σ H R q => si_zip q
      · cases h
    | rng3 es =>
      simp only at h
      split at h
      · rename_i f p x y z pos
        simp only [Bool.and_eq_true, decide_eq_true_eq] at h
        obtain ⟨⟨⟨rfl, h2⟩, h3⟩, h4⟩ := h
        have hk' : k < K := by omega
        obtain ⟨_, _, _, _, _, h6, l6, ns, _⟩ := opd_cons ih hk' c h4
        obtain ⟨_, _, _, _, _, h7, l7, ns2, _⟩ := opd_cons ih l6 c h6
        obtain ⟨_, _, _, _, _, _, _, ns3, _⟩ := opd_cons ih l7 c h7
        refine pi_imp (pi_range3 (c.gl h2) (c.bi _ h3) (args_ok ih c k _ es (by omega) h4) ?_ ?_) fun σ H R q => si_rng3 q
        · rw [star_of ns, star_of ns2, star_of ns3] <;> rfl
        · rw [star_of ns2, star_of ns3] <;> rfl
      · cases h
    | revR es =>
      simp only at h
      split at h
      · rename_i f p r rp as rpos pos
        simp only [Bool.and_eq_true, Bool.or_eq_true, decide_eq_true_eq] at h
        obtain ⟨⟨⟨⟨⟨⟨⟨rfl, h2⟩, h3⟩, rfl⟩, h4⟩, h5⟩, h6⟩, h7⟩ := h
        have hk' : k < K := by omega
        match as, h6, h7 with
        | [a], _, h7 =>
          obtain ⟨ta, es', k', pa, ee, ha2, _, ns, m⟩ := opd_cons ih hk' c h7
          refine pi_imp (pi_revR (c.gl h2) (c.bi _ h3) (prg_1 (c.gl h4) (c.bi _ h5) pa (star_of ns _ _)) rfl) fun σ H R q => ?_
          have q' := si_revR q
          rw [ee, opd_nil ha2] at q'
          refine m σ H _ _ (fun x H1 z => ?_) q'
          rcases z with ⟨j, e, z1, z2, z⟩ | ⟨i, j, e, _⟩
          · cases e
            exact ⟨j, rfl, by decide, by decide, z1, z2, z⟩
          · cases e
        | [a, b], _, h7 =>
          obtain ⟨ta, es', k', pa, ee, ha2, l2, ns, m⟩ := opd_cons ih hk' c h7
          obtain ⟨tb, es2, k2, pb, ee2, ha3, _, ns2, m2⟩ := opd_cons ih l2 c ha2
          refine pi_imp (pi_revR (c.gl h2) (c.bi _ h3) (prg_2 (c.gl h4) (c.bi _ h5) pa pb (star_of ns _ _) (star_of ns2 _ _) (by rw [star_of ns2] <;> rfl)) rfl) fun σ H R q => ?_
          have q' := si_revR q
          rw [ee, ee2, opd_nil ha3] at q'
          refine m σ H _ _ (fun x H1 z => m2 σ H1 _ _ (fun y H2 z => ?_) z) q'
          rcases z with ⟨j, e, _⟩ | ⟨i, j, e, ⟨z1, z2, z3, z4⟩, z5⟩
          · cases e
          · cases e
            exact ⟨i, j, rfl, rfl, z1, z2, z3, z4, z5⟩
        | [], hl, _ => rcases hl with h | h <;> cases h
        | _ :: _ :: _ :: _, hl, _ => rcases hl with h | h <;> cases h
      · cases h
/-- the context of a comprehension's block -/
theorem Ctx.blk (c : Ctx P C M n Z W X) (hz : Z.hot = false) (scope : Scope) (s : Shared) (H : Hp) (D : Addr) (cl : List (Str × Addr)) (fp : List Addr) : Ctx P C M n (Z.blk scope) W0 (X.blk s H scope (compEnvC scope cl D X.env) fp) where
  hK := c.hK
  hN := c.hN
  nd := c.nd
  sc := by
    show relS scope X.env.scope = relS scope Z.sc
    rw [c.sc]
  fn := rfl
  tk := fun u s' x => by
    obtain ⟨_, _, _, _, _, _, _, _, _, _, _, _, _, _, _, _, z⟩ := x
    exact z.elim
  un := c.un
  bi := c.bi
  cn := c.cn
  calm := c.calm
  cl := c.cl
  cc := c.cc
  cx := c.cx
  rm := c.rm
  ho := fun z => by
    have z' : Z.hot = true := z
    rw [hz] at z'; cases z'
  hf := c.hf
  fns := c.fns
theorem isTrueK_of {e : E} (h : isTrueK e = true) : e = .k (.bl true) := by
  unfold isTrueK at h
  split at h
  · rfl
  · cases h
theorem pts_imp {es : List Expr} {t t' : TT} (h : PTs X es t) (k : ∀ σ H Q, t' σ H Q → t σ H Q) : PTs X es t' := ⟨fun pins s σ H Q I q => h.run pins s σ H Q I (k σ H Q q)⟩
theorem tb_true {Q : Bool → Hp → Prop} (h : tB (tD C W M (.k (.bl true))) σ H Q) : tYes σ H Q := by
  obtain ⟨S, g, F, G, h⟩ := h
  obtain ⟨b, e, q⟩ := h (.bl true) H S F [] tail_nil G ⟨rfl, rfl⟩ List.nodup_nil (fun b hb => nomatch hb)
  cases e
  exact q
theorem sound_comp {K : Nat} (ih : Below P C M n (K + 1)) (c : Ctx P C M n Z W X) (tg : Tg) (it : Kv.It) (cd el : E) (e : Expr) (h : chkE P Z (K + 1) e (.comp tg it cd el) = true) : PE X e (tD C W M (.comp tg it cd el)) := by
  unfold chkE at h
  simp only [Bool.and_eq_true] at h
  replace h := h.2
  split at h
  · rename_i elt t iter ifs scope pos
    simp only [Bool.and_eq_true, Bool.not_eq_true'] at h
    obtain ⟨⟨⟨⟨⟨h0, h1⟩, h2⟩, h3⟩, h4⟩, h5⟩ := h
    have hcalm := (c.calm h0).1
    obtain ⟨pi, ns⟩ := sound_It (tg := t) ih (Nat.lt_succ_self K) c h3
    have sub := fun (s : Shared) (H : Hp) (D : Addr) (cl : List (Str × Addr)) (fp : List Addr) => ih K (Nat.lt_succ_self K) _ _ _ (c.blk h0 scope s H D cl fp)
    have hb : BlkOk X.N X.env.scope scope (tgOwn t tg) := blkOk_by (by rw [c.hN, c.sc]; exact h2)
    have r := pe_lc (elt := elt) (tg := t) (iter := iter) (ifs := ifs) (scope := scope) (own := tgOwn t tg) (pos := pos) (wi := siT C W M it) (g := tgT X.K tg) (tt := tB (tD C W0 M cd)) (te := tD C W0 M el) hcalm c.nd pi hb
      (fun s H D cl fp => pg_tg (c.blk h0 scope s H D cl fp) hcalm h1)
      (fun s H D cl fp => by
        cases ifs with
        | nil =>
          rw [isTrueK_of h5]
          exact pts_imp pts_nil fun σ H Q q => tb_true q
        | cons x r =>
          cases r with
          | nil => exact pts_one ((sub s H D cl fp).2.1 _ _ h5)
          | cons _ _ => cases h5)
      (fun s H D cl fp => (sub s H D cl fp).1 _ _ h4) (set_fold ns X.env)
    refine pe_imp r fun σ H Q q => ?_
    rw [tg_slots h1, ← c.hK]
    exact td_comp q
  · cases h
theorem pw_list {K : Nat} {y : Expr} {r : List Expr} {p : Pos} {b : E} (h : (match r with | [] => chkT P Z K y b | _ => chkT P Z K (.BoolOp .And (y :: r) p) b) = true)
    (iT : ∀ e e', chkT P Z K e e' = true → PT X e (tB (tD C W M e'))) (iW : ∀ op xs p e', chkT P Z K (.BoolOp op xs p) e' = true → PW X (.BoolOp op xs p) (tB (tD C W M e'))) : PW X (.BoolOp .And (y :: r) p) (tB (tD C W M b)) := by
  cases r with
  | nil => exact pw_and1 (iT _ _ h)
  | cons _ _ => exact iW _ _ _ _ h
theorem pwo_list {K : Nat} {y : Expr} {r : List Expr} {p : Pos} {b : E} (h : (match r with | [] => chkT P Z K y b | _ => chkT P Z K (.BoolOp .Or (y :: r) p) b) = true)
    (iT : ∀ e e', chkT P Z K e e' = true → PT X e (tB (tD C W M e'))) (iW : ∀ op xs p e', chkT P Z K (.BoolOp op xs p) e' = true → PW X (.BoolOp op xs p) (tB (tD C W M e'))) : PW X (.BoolOp .Or (y :: r) p) (tB (tD C W M b)) := by
  cases r with
  | nil => exact pw_or1 (iT _ _ h)
  | cons _ _ => exact iW _ _ _ _ h
theorem pw_imp {e : Expr} {t t' : TT} (h : PW X e t) (k : ∀ σ H Q, t' σ H Q → t σ H Q) : PW X e t' := ⟨fun wh pins s σ H Q I q => h.run wh pins s σ H Q I (k σ H Q q)⟩
/-- tests -/
theorem sound_W {K : Nat} (ih : Below P C M n (K + 1)) (c : Ctx P C M n Z W X) (op : BoolOp) (xs : List Expr) (p : Pos) (e' : E) (h : chkT P Z (K + 1) (.BoolOp op xs p) e' = true) : PW X (.BoolOp op xs p) (tB (tD C W M e')) := by
  obtain ⟨iE, iT, iA, iW⟩ := ih K (Nat.lt_succ_self _) Z W X c
  match op, xs, e', h with
  | .And, x :: y :: r, .and a b, h =>
    simp only [chkT, Bool.and_eq_true] at h
    exact pw_imp (pw_and (iT _ _ h.1) (pw_list h.2 iT iW)) fun σ H Q q => tb_and q
  | .Or, x :: y :: r, .or a b, h =>
    simp only [chkT, Bool.and_eq_true] at h
    exact pw_imp (pw_or (iT _ _ h.1) (pwo_list h.2 iT iW)) fun σ H Q q => tb_or q
  | .And, [], e', h => exfalso; cases e' <;> simp [chkT] at h
  | .Or, [], e', h => exfalso; cases e' <;> simp [chkT] at h
  | .And, [_], e', h => exfalso; cases e' <;> simp [chkT] at h
  | .Or, [_], e', h => exfalso; cases e' <;> simp [chkT] at h
  | .And, _ :: _ :: _, .k _, h => simp [chkT] at h
  | .And, _ :: _ :: _, .var _, h => simp [chkT] at h
  | .And, _ :: _ :: _, .mv _, h => simp [chkT] at h
  | .And, _ :: _ :: _, .mvi _ _, h => simp [chkT] at h
  | .And, _ :: _ :: _, .op _ _, h => simp [chkT] at h
  | .And, _ :: _ :: _, .lst _, h => simp [chkT] at h
  | .And, _ :: _ :: _, .tup _, h => simp [chkT] at h
  | .And, _ :: _ :: _, .or _ _, h => simp [chkT] at h
  | .And, _ :: _ :: _, .not _, h => simp [chkT] at h
  | .And, _ :: _ :: _, .ite _ _ _, h => simp [chkT] at h
  | .And, _ :: _ :: _, .chain _ _ _ _ _, h => simp [chkT] at h
  | .And, _ :: _ :: _, .slv _ _ _, h => simp [chkT] at h
  | .And, _ :: _ :: _, .mtB _ _ _, h => simp [chkT] at h
  | .And, _ :: _ :: _, .hld _ _, h => simp [chkT] at h
  | .And, _ :: _ :: _, .pki _ _, h => simp [chkT] at h
  | .And, _ :: _ :: _, .pk2 _ _ _, h => simp [chkT] at h
  | .And, _ :: _ :: _, .pkl _ _, h => simp [chkT] at h
  | .And, _ :: _ :: _, .callB _ _, h => simp [chkT] at h
  | .And, _ :: _ :: _, .callF _ _, h => simp [chkT] at h
  | .And, _ :: _ :: _, .callI _ _, h => simp [chkT] at h
  | .And, _ :: _ :: _, .callK _ _ _ _ _, h => simp [chkT] at h
  | .And, _ :: _ :: _, .comp _ _ _ _, h => simp [chkT] at h
  | .Or, _ :: _ :: _, .k _, h => simp [chkT] at h
  | .Or, _ :: _ :: _, .var _, h => simp [chkT] at h
  | .Or, _ :: _ :: _, .mv _, h => simp [chkT] at h
  | .Or, _ :: _ :: _, .mvi _ _, h => simp [chkT] at h
  | .Or, _ :: _ :: _, .op _ _, h => simp [chkT] at h
  | .Or, _ :: _ :: _, .lst _, h => simp [chkT] at h
  | .Or, _ :: _ :: _, .tup _, h => simp [chkT] at h
  | .Or, _ :: _ :: _, .and _ _, h => simp [chkT] at h
  | .Or, _ :: _ :: _, .not _, h => simp [chkT] at h
  | .Or, _ :: _ :: _, .ite _ _ _, h => simp [chkT] at h
  | .Or, _ :: _ :: _, .chain _ _ _ _ _, h => simp [chkT] at h
  | .Or, _ :: _ :: _, .slv _ _ _, h => simp [chkT] at h
  | .Or, _ :: _ :: _, .mtB _ _ _, h => simp [chkT] at h
  | .Or, _ :: _ :: _, .hld _ _, h => simp [chkT] at h
  | .Or, _ :: _ :: _, .pki _ _, h => simp [chkT] at h
  | .Or, _ :: _ :: _, .pk2 _ _ _, h => simp [chkT] at h
  | .Or, _ :: _ :: _, .pkl _ _, h => simp [chkT] at h
  | .Or, _ :: _ :: _, .callB _ _, h => simp [chkT] at h
  | .Or, _ :: _ :: _, .callF _ _, h => simp [chkT] at h
  | .Or, _ :: _ :: _, .callI _ _, h => simp [chkT] at h
  | .Or, _ :: _ :: _, .callK _ _ _ _ _, h => simp [chkT] at h
  | .Or, _ :: _ :: _, .comp _ _ _ _, h => simp [chkT] at h
theorem sound_T {K : Nat} (ih : Below P C M n (K + 1)) (c : Ctx P C M n Z W X) (e : Expr) (e' : E) (h : chkT P Z (K + 1) e e' = true) : PT X e (tB (tD C W M e')) := by
  have hk : K < K + 1 := Nat.lt_succ_self _
  obtain ⟨iE, iT, iA, iW⟩ := ih K hk Z W X c
  unfold chkT at h
  split at h
  · exact pt_imp (pt_not (iT _ _ h)) fun σ H Q q => tb_not q
  · simp only [Bool.and_eq_true] at h
    exact pt_imp (pw_and (iT _ _ h.1) (pw_list h.2 iT iW)).pt fun σ H Q q => tb_and q
  · simp only [Bool.and_eq_true] at h
    exact pt_imp (pw_or (iT _ _ h.1) (pwo_list h.2 iT iW)).pt fun σ H Q q => tb_or q
  · simp only [Bool.and_eq_true, decide_eq_true_eq] at h
    obtain ⟨⟨⟨⟨⟨⟨h1, h2⟩, h3⟩, h4⟩, h5⟩, h6⟩, h7⟩ := h
    exact (chain_pe c h1 h2 h3 h4 (iE _ _ h5) (iE _ _ h6) (iE _ _ h7)).2
  · exact (cmpN_ok ih hk c h).2
  · refine pt_imp (pt_truth (c.nm h) (fun _ => rfl)) fun σ H Q q => ?_
    have q' : tVar _ σ H fun x H1 => rOp C .truL [x] H1 fun y H2 => ∃ c, y = .bl c ∧ Q c H2 := tD_op q
    exact mono_var σ H _ _ (fun x H1 z => ok_tru c.hK z) q'
  · exact pt_val (iE _ _ h)
  · exact pt_val (iE _ _ h)
  · exact pt_val (iE _ _ h)
  · exact pt_val (iE _ _ h)
  · exact pt_val (iE _ _ h)
  · cases h
theorem chk_sound (P : Prg) (C : RC) (M : Fns) (n : Nat) : ∀ k, Sound P C M n k := by
  intro k
  induction k using Nat.strongRecOn with
  | _ k ih =>
    cases k with
    | zero =>
      intro Z W X c
      exact ⟨fun _ _ h => (by unfold chkE at h; cases h), fun _ _ h => (by unfold chkT at h; cases h), fun _ _ h => (by unfold chkA at h; cases h), fun _ _ _ _ h => (by unfold chkT at h; cases h)⟩
    | succ K =>
      intro Z W X c
      exact ⟨sound_E ih c fun tg it cd el e h => sound_comp ih c tg it cd el e h, sound_T ih c, fun es es' h => args_ok ih c (K + 1) es es' (Nat.le_refl _) h, sound_W ih c⟩
end Kv

/-! Kv 13: readings of statements. -/
namespace Kv
open PySem L2
variable {P : Prg} {C : RC} {S S' : Addr → Prop} {H H' : Hp} {X : Cx} {W : WX} {M : Fns} {σ τ : St} {n : Nat} {Z : Nm} {Pn : List Nat}

def outS (C : RC) (W : WX) (Pn : List Nat) (D : Ends) (σ : St) (S : Addr → Prop) (H : Hp) (F : List Addr) : Fl → Prop
  | .nx g => ∀ τ H' S' F', Tr S H F S' H' F' → Good C S' H' g τ F' → PinEq Pn σ τ → D.nx τ H'
  | .bk g => ∀ τ H' S' F', Tr S H F S' H' F' → Good C S' H' g τ F' → PinEq Pn σ τ → D.bk τ H'
  | .ct g => ∀ τ H' S' F', Tr S H F S' H' F' → Good C S' H' g τ F' → PinEq Pn σ τ → D.ct τ H'
  | .rt t g => ∀ τ x H' S' F' F1, Tr S H F S' H' (F' ++ F1) → Good C S' H' g τ F' → PinEq Pn σ τ → Rp C S' H' t x F1 → F1.Nodup → Dj F1 F' → D.rt x H'
  | .exc c fs g => ∀ cls d τ H' S' F', Tr S H F S' H' F' → Good C S' H' g τ F' → PinEq Pn σ τ → ExRel C c fs cls d S' H' → W cls d τ H'
  | .bad => False
def tS (C : RC) (W : WX) (M : Fns) (Pn : List Nat) (s : Sm) : TS := fun D σ H => ∃ S g F, Good C S H g σ F ∧ outS C W Pn D σ S H F (ex M s Pn g)
def tSs (C : RC) (W : WX) (M : Fns) (Pn : List Nat) (s : Sms) : TS := fun D σ H => ∃ S g F, Good C S H g σ F ∧ outS C W Pn D σ S H F (exs M s Pn g)
theorem outS.tr {D : Ends} {F F' : List Addr} {r : Fl} (h : outS C W Pn D σ S H F r) (t : Tr S H F S' H' F') (p : PinEq Pn σ τ) : outS C W Pn D τ S' H' F' r := by
  cases r with
  | nx g => exact fun υ H2 S2 F2 t2 G q => h υ H2 S2 F2 (t.trans t2) G (p.trans q)
  | bk g => exact fun υ H2 S2 F2 t2 G q => h υ H2 S2 F2 (t.trans t2) G (p.trans q)
  | ct g => exact fun υ H2 S2 F2 t2 G q => h υ H2 S2 F2 (t.trans t2) G (p.trans q)
  | rt t' g => exact fun υ x H2 S2 F2 F3 t2 G q => h υ x H2 S2 F2 F3 (t.trans t2) G (p.trans q)
  | exc c fs g => exact fun cls d υ H2 S2 F2 t2 G q => h cls d υ H2 S2 F2 (t.trans t2) G (p.trans q)
  | bad => exact h
/-- an expression's outcome, then a statement's -/
def thenS (r : Rs T) (f : T → Env → Fl) : Fl := match r with
  | .ok t g => f t g
  | .exc c fs g => .exc c fs g
  | .bad => .bad
theorem tD_of {D : Ends} {F : List Addr} {g : Env} {e : E} {f : T → Env → Fl} {Q : VK} (G : Good C S H g σ F) (h : outS C W Pn D σ S H F (thenS (ev M e g) f))
    (k : ∀ t g1, ev M e g = .ok t g1 → ∀ x H' S' F' F1, Tr S H F S' H' (F' ++ F1) → Good C S' H' g1 σ F' → Rp C S' H' t x F1 → F1.Nodup → Dj F1 F' → outS C W Pn D σ S' H' (F' ++ F1) (f t g1) → Q x H') : tD C W M e σ H Q := by
  refine ⟨S, g, F, G, ?_⟩
  cases e1 : ev M e g with
  | ok t g1 =>
    rw [e1] at h
    exact fun x H' S' F' F1 t1 G1 rp nd dj => k t g1 e1 x H' S' F' F1 t1 G1 rp nd dj (outS.tr h t1 PinEq.refl)
  | exc c fs g1 =>
    rw [e1] at h
    exact fun cls d H' S' F' t1 G1 x => h cls d σ H' S' F' t1 G1 PinEq.refl x
  | bad => rw [e1] at h; exact h
theorem left_sub {F F1 : List Addr} : Tr S H (F ++ F1) S H F := Tr.refl.sub' fun b hb => List.mem_append_left _ hb
theorem ts_asg {D : Ends} {i : Nat} {e : E} (h : tS C W M Pn (.asg i e) D σ H) : tAsg (tD C W M e) (gName i) D σ H := by
  obtain ⟨S, g, F, G, h⟩ := h
  have h' : outS C W Pn D σ S H F (thenS (ev M e g) fun t g => match put1 i t Pn g with | some g => .nx g | none => .bad) := by
    unfold ex at h
    cases e1 : ev M e g <;> (rw [e1] at h; exact h)
  refine tD_of G h' fun t g1 _ x H1 S1 F1 Fa t1 G1 r nd dj q => ?_
  cases e2 : put1 i t Pn g1 with
  | none => simp only [e2] at q; exact q.elim
  | some g2 =>
    simp only [e2] at q
    obtain ⟨F2, G2, a2, p2, _⟩ := put1_ok G1 r nd dj e2
    exact q _ H1 S1 F2 (Tr.refl.sub' fun b hb => List.mem_append.mpr (a2 b hb)) G2 p2
theorem ts_par {D : Ends} {i j : Nat} {es : Es} (h : tS C W M Pn (.par i j es) D σ H) : tPar i j (tL C W M es) D σ H := by
  obtain ⟨S, g, F, G, h⟩ := h
  refine opnds es S H F g _ G ?_
  unfold ex at h
  cases e : evO M es g with
  | bad => rw [e] at h; exact h
  | exc c fs g1 =>
    rw [e] at h
    exact fun cls d H' S' F' t1 G1 x => h cls d σ H' S' F' t1 G1 PinEq.refl x
  | ok ods g1 =>
    rw [e] at h
    intro vs H1 S1 F1 Fa t1 G1 od na da
    cases e1 : tmps ods with
    | none => simp only [e1] at h; exact h.elim
    | some ts =>
      have rl := ods_vals e1 od
      match ts, e1, rl, h with
      | [t, u], e1, rl, h =>
        obtain ⟨x, ws, Fx, Fy, rfl, rfl, rx, y, ws2, Fy1, F0, rfl, rfl, ry, rfl, rfl⟩ := rl
        rw [List.append_nil] at na da t1
        simp only [e1] at h
        cases e2 : (put1 i t Pn g1).bind fun g => put1 j u Pn g with
        | none => simp only [e2] at h; exact h.elim
        | some g2 =>
          simp only [e2] at h
          obtain ⟨ga, ea, eb⟩ := Option.bind_eq_some_iff.mp e2
          obtain ⟨nx, ny, dxy⟩ := nd_dj na
          obtain ⟨F2, G2, a2, p2, _⟩ := put1_ok G1 rx nx (fun b hb => da b (List.mem_append_left _ hb)) ea
          obtain ⟨F3, G3, a3, p3, _⟩ := put1_ok G2 ry ny (fun b hb hf => (a2 b hf).elim (fun z => da b (List.mem_append_right _ hb) z) fun z => dxy b hb z) eb
          refine ⟨x, y, rfl, h _ H1 S1 F3 (t1.sub' fun b hb => ?_) G3 (p2.trans p3)⟩
          rcases a3 b hb with z | z
          · rcases a2 b z with z | z
            · exact List.mem_append_left _ z
            · exact List.mem_append_right _ (List.mem_append_left _ z)
          · exact List.mem_append_right _ (List.mem_append_right _ z)
      | [], e1, rl, h => simp only [e1] at h; exact h.elim
      | [_], e1, rl, h => simp only [e1] at h; exact h.elim
      | _ :: _ :: _ :: _, e1, rl, h => simp only [e1] at h; exact h.elim
theorem ts_unp {D : Ends} {is : List Nat} {e : E} (h : tS C W M Pn (.unp is e) D σ H) : tAsg (tD C W M e) (tgT C.K (.many is)) D σ H := by
  obtain ⟨S, g, F, G, h⟩ := h
  have h' : outS C W Pn D σ S H F (thenS (ev M e g) fun t g => match Tg.put (.many is) t Pn g with | some g => .nx g | none => .bad) := by
    unfold ex at h
    cases e1 : ev M e g <;> (rw [e1] at h; exact h)
  refine tD_of G h' fun t g1 _ x H1 S1 F1 Fa t1 G1 r nd dj q => ?_
  cases e2 : Tg.put (.many is) t Pn g1 with
  | none => simp only [e2] at q; exact q.elim
  | some g2 =>
    simp only [e2] at q
    obtain ⟨S2, τ, F2, t2, G2, p2, _, q2⟩ := tgt_ok G1 r nd dj e2
    exact q2 _ (q τ H1 S2 F2 t2 G2 p2)
theorem ts_ex {D : Ends} {e : E} (h : tS C W M Pn (.ex e) D σ H) : tDrop (tD C W M e) D σ H := by
  obtain ⟨S, g, F, G, h⟩ := h
  have h' : outS C W Pn D σ S H F (thenS (ev M e g) fun t g => .nx g) := by
    unfold ex at h
    cases e1 : ev M e g <;> (rw [e1] at h; exact h)
  exact tD_of G h' fun t g1 _ x H1 S1 F1 Fa t1 G1 r nd dj q => q σ H1 S1 F1 left_sub G1 PinEq.refl
theorem ts_ret {D : Ends} {e : E} (h : tS C W M Pn (.ret e) D σ H) : tRet (tD C W M e) D σ H := by
  obtain ⟨S, g, F, G, h⟩ := h
  have h' : outS C W Pn D σ S H F (thenS (ev M e g) fun t g => .rt t g) := by
    unfold ex at h
    cases e1 : ev M e g <;> (rw [e1] at h; exact h)
  exact tD_of G h' fun t g1 _ x H1 S1 F1 Fa t1 G1 r nd dj q => q σ x H1 S1 F1 Fa Tr.refl G1 PinEq.refl r nd dj
theorem ts_retN {D : Ends} (h : tS C W M Pn .retN D σ H) : tRetN D σ H := by
  obtain ⟨S, g, F, G, h⟩ := h
  exact h σ .non H S F [] tail_nil G PinEq.refl ⟨rfl, rfl⟩ List.nodup_nil (fun b hb => nomatch hb)
theorem ts_brk {D : Ends} (h : tS C W M Pn .brk D σ H) : tBreak D σ H := by
  obtain ⟨S, g, F, G, h⟩ := h
  exact h σ H S F Tr.refl G PinEq.refl
theorem ts_cnt {D : Ends} (h : tS C W M Pn .cnt D σ H) : tCont D σ H := by
  obtain ⟨S, g, F, G, h⟩ := h
  exact h σ H S F Tr.refl G PinEq.refl
theorem ts_pas {D : Ends} (h : tS C W M Pn .pas D σ H) : tNext D σ H := by
  obtain ⟨S, g, F, G, h⟩ := h
  exact h σ H S F Tr.refl G PinEq.refl
theorem ts_nil {D : Ends} (h : tSs C W M Pn .nil D σ H) : tNext D σ H := by
  obtain ⟨S, g, F, G, h⟩ := h
  exact h σ H S F Tr.refl G PinEq.refl
theorem ts_cons {D : Ends} {s : Sm} {r : Sms} (h : tSs C W M Pn (.cons s r) D σ H) : tSeq (tS C W M Pn s) (tSs C W M Pn r) D σ H := by
  obtain ⟨S, g, F, G, h⟩ := h
  refine ⟨S, g, F, G, ?_⟩
  unfold exs at h
  cases e1 : ex M s Pn g with
  | nx g1 =>
    rw [e1] at h
    exact fun τ H1 S1 F1 t1 G1 p1 => ⟨S1, g1, F1, G1, outS.tr h t1 p1⟩
  | bk g1 => rw [e1] at h; exact h
  | ct g1 => rw [e1] at h; exact h
  | rt t g1 => rw [e1] at h; exact h
  | exc c fs g1 => rw [e1] at h; exact h
  | bad => rw [e1] at h; exact h
theorem ts_ite {D : Ends} {c : E} {a b : Sms} (h : tS C W M Pn (.ite c a b) D σ H) : tIfS (tB (tD C W M c)) (tSs C W M Pn a) (tSs C W M Pn b) D σ H := by
  obtain ⟨S, g, F, G, h⟩ := h
  have h' : outS C W Pn D σ S H F (thenS (ev M c g) fun t g => match t with | .bl true => exs M a Pn g | .bl false => exs M b Pn g | _ => .bad) := by
    unfold ex at h
    cases e1 : ev M c g with
    | ok t g1 =>
      rw [e1] at h
      cases t <;> first | exact h | skip
      rename_i bb
      cases bb <;> exact h
    | exc _ _ _ => rw [e1] at h; exact h
    | bad => rw [e1] at h; exact h
  refine tD_of G h' fun t g1 e1 x H1 S1 F1 Fa t1 G1 r nd dj q => ?_
  cases t <;> first | exact q.elim | skip
  rename_i bb
  cases bb with
  | true => exact ⟨true, r.1, iteT (show tSs C W M Pn a D σ H1 from ⟨S1, g1, F1, G1, outS.tr q left_sub PinEq.refl⟩)⟩
  | false => exact ⟨false, r.1, iteF (show tSs C W M Pn b D σ H1 from ⟨S1, g1, F1, G1, outS.tr q left_sub PinEq.refl⟩)⟩
/-- a name's own list is rewritten -/
theorem own_set {g : Env} {F F1 : List Addr} {v : Nat} {xs : List T} {t : T} {x : V} (G : Good C S H g σ F) (hv : g.getD v none = some (.lst true xs)) (r : Rp C S H t x F1) (nd : F1.Nodup) (dj : Dj F1 F) :
    ∃ p vs, σ[v]? = some (some (.ref p)) ∧ H p = some (.lst vs) ∧ vs.length = xs.length ∧
      (∃ F2, Good C S (upd H p (.lst (vs ++ [x]))) (g.set v (some (.lst true (xs ++ [t])))) σ F2 ∧ Tr S H (F ++ F1) S (upd H p (.lst (vs ++ [x]))) F2) ∧
      ∀ j, j < xs.length → ∃ F2, Good C S (upd H p (.lst (vs.set j x))) (g.set v (some (.lst true (xs.set j t)))) σ F2 ∧ Tr S H (F ++ F1) S (upd H p (.lst (vs.set j x))) F2 := by
  obtain ⟨Fr, Fi, hs, G1, n1, d1, hm⟩ := G.take (getD_lt hv)
  rw [hv] at hs
  obtain ⟨y, ey, ry⟩ := hs
  have hy := slot_some (by rw [G.len]; exact getD_lt hv) ey
  obtain ⟨p, vs, F', ep, hp, rl, hS, eF⟩ := ry
  subst ep eF
  obtain ⟨m1, m2⟩ := List.nodup_cons.mp n1
  have pr : p ∉ Fr := d1 p List.mem_cons_self
  have pf : p ∈ F := (hm p).mpr (.inr List.mem_cons_self)
  have p1 : p ∉ F1 := fun z => dj p z pf
  have d1r : Dj F1 Fr := fun b hb hf => dj b hb ((hm b).mpr (.inl hf))
  have own' := RpL.own _ _ _ rl
  have ownF := Rp.own _ _ _ r
  have kids : ∀ ws, RpL C S (upd H p (.lst ws)) xs vs F' := fun ws => RpL.stay (fun _ z => z) xs vs F' (stays_upd hS m1 hp) (fun b hb => (own' b hb).1) rl
  have rt : ∀ ws, Rp C S (upd H p (.lst ws)) t x F1 := fun ws => Rp.stay (fun _ z => z) t x F1 (stays_upd hS p1 hp) (fun b hb => (ownF b hb).1) r
  have fin : ∀ (ws : List V) (ts : List T) (Fk : List Addr), RpL C S (upd H p (.lst ws)) ts ws Fk → Fk.Nodup → (∀ b ∈ Fk, b ∈ F' ∨ b ∈ F1) → ∃ F2, Good C S (upd H p (.lst ws)) (g.set v (some (.lst true ts))) σ F2 ∧ Tr S H (F ++ F1) S (upd H p (.lst ws)) F2 := by
    intro ws ts Fk hk nk sk
    have G2 := G1.upd (ws := ws) hS pr hp
    have pk : p ∉ Fk := fun z => (sk p z).elim m1 p1
    obtain ⟨F2, G3, a3, _⟩ := G2.put (i := v) (by rw [List.length_set]; exact getD_lt hv) (o := some (.lst true ts)) (y := σ.getD v none) (Fi := p :: Fk) ⟨.ref p, ey, p, ws, Fk, rfl, upd_same, hk, hS, rfl⟩ (List.nodup_cons.mpr ⟨pk, nk⟩) fun b hb hf => by
      rcases List.mem_cons.mp hb with e | hb
      · subst e; exact pr hf
      · rcases sk b hb with z | z
        · exact d1 b (List.mem_cons_of_mem _ z) hf
        · exact d1r b z hf
    rw [List.set_set, set_getD] at G3
    refine ⟨F2, G3, (Tr.upd (List.mem_append_left _ pf)).sub' fun b hb => ?_⟩
    rcases a3 b hb with z | z
    · exact List.mem_append_left _ ((hm b).mpr (.inl z))
    · rcases List.mem_cons.mp z with e | z
      · subst e; exact List.mem_append_left _ pf
      · rcases sk b z with z | z
        · exact List.mem_append_left _ ((hm b).mpr (.inr (List.mem_cons_of_mem _ z)))
        · exact List.mem_append_right _ z
  refine ⟨p, vs, hy, hp, rl.length, ?_, fun j hj => ?_⟩
  · have r3 : RpL C S (upd H p (.lst (vs ++ [x]))) [t] [x] F1 := ⟨x, [], F1, [], rfl, by rw [List.append_nil], rt _, rfl, rfl⟩
    refine fin (vs ++ [x]) (xs ++ [t]) (F' ++ F1) (RpL.append (kids _) r3) (List.nodup_append.mpr ⟨m2, nd, fun a ha b hb e => ?_⟩) fun b hb => List.mem_append.mp hb
    subst e
    exact dj a hb ((hm a).mpr (.inr (List.mem_cons_of_mem _ ha)))
  · obtain ⟨Fk, hk, sk, nk⟩ := rpl_set xs vs F' j (kids (vs.set j x)) m2 (rt _) nd (fun b hb hf => dj b hb ((hm b).mpr (.inr (List.mem_cons_of_mem _ hf)))) hj
    exact fin (vs.set j x) (xs.set j t) Fk hk nk sk
where
  rpl_set {H : Hp} {t : T} {x : V} {F1 : List Addr} : ∀ (xs : List T) (vs : List V) (F' : List Addr) (j : Nat), RpL C S H xs vs F' → F'.Nodup → Rp C S H t x F1 → F1.Nodup → Dj F1 F' → j < xs.length → ∃ Fk, RpL C S H (xs.set j t) (vs.set j x) Fk ∧ (∀ b ∈ Fk, b ∈ F' ∨ b ∈ F1) ∧ Fk.Nodup
    | [], _, _, _, _, _, _, _, _, h => absurd h (Nat.not_lt_zero _)
    | u :: us, vs, F', 0, ⟨y, ws, Fa, Fb, e, eF, r1, r2⟩, nF, r, n1, dj, _ => by
      subst e eF
      obtain ⟨na, nb, dab⟩ := nd_dj nF
      refine ⟨F1 ++ Fb, ⟨x, ws, F1, Fb, rfl, rfl, r, r2⟩, fun b hb => (List.mem_append.mp hb).elim .inr fun z => .inl (List.mem_append_right _ z), List.nodup_append.mpr ⟨n1, nb, fun a ha b hb e => ?_⟩⟩
      subst e
      exact dj a ha (List.mem_append_right _ hb)
    | u :: us, vs, F', j + 1, ⟨y, ws, Fa, Fb, e, eF, r1, r2⟩, nF, r, n1, dj, hj => by
      subst e eF
      obtain ⟨na, nb, dab⟩ := nd_dj nF
      obtain ⟨Fk, h1, h2, h3⟩ := rpl_set us ws Fb j r2 nb r n1 (fun b hb hf => dj b hb (List.mem_append_right _ hf)) (by simpa using hj)
      refine ⟨Fa ++ Fk, ⟨y, ws.set j x, Fa, Fk, rfl, rfl, r1, h1⟩, fun b hb => ?_, List.nodup_append.mpr ⟨na, h3, fun a ha b hb e => ?_⟩⟩
      · rcases List.mem_append.mp hb with z | z
        · exact .inl (List.mem_append_left _ z)
        · exact (h2 b z).imp (fun z => List.mem_append_right _ z) id
      · subst e
        rcases h2 a hb with z | z
        · exact dab a z ha
        · exact dj a z (List.mem_append_left _ ha)
theorem ixN_lt {m : Nat} {i : Int} {j : Nat} (h : ixN m i = some j) : j < m := by
  unfold ixN at h
  split at h
  · split at h
    · cases h; omega
    · cases h
  · split at h
    · cases h; omega
    · cases h
/-- the list at v is written at k -/
def setiEnd (v : Nat) (t : T) (k : T) (g : Env) : Fl := match k with
  | .int k => (match g.getD v none with
    | some (.lst true xs) => (match L2.ixN xs.length k with
      | some j => .nx (g.set v (some (.lst true (xs.set j t))))
      | none => .bad)
    | _ => .bad)
  | _ => .bad
theorem isLst_of {o : Option T} (h : isLst o = true) : ∃ b xs, o = some (.lst b xs) := by
  unfold isLst at h
  split at h
  · exact ⟨_, _, rfl⟩
  · cases h
theorem ts_seti {D : Ends} {v : Nat} {i e : E} (h : tS C W M Pn (.seti v i e) D σ H) : tAsg (tD C W M e) (gSub (tVar v) (tD C W M i) rSetL) D σ H := by
  obtain ⟨S, g, F, G, h⟩ := h
  have h' : outS C W Pn D σ S H F (thenS (ev M e g) fun t g => if isLst (g.getD v none) = true then thenS (ev M i g) fun k g => setiEnd v t k g else .bad) := by
    unfold ex at h
    cases e1 : ev M e g with
    | ok t g1 =>
      rw [e1] at h
      simp only [thenS] at h ⊢
      cases e3 : g1.getD v none with
      | none => rw [e3] at h; exact h
      | some u =>
        rw [e3] at h
        cases u <;> first | exact h | skip
        rw [if_pos (show isLst (some (T.lst _ _)) = true from rfl)]
        cases e2 : ev M i g1 with
        | ok k g2 => simp only [e2] at h; cases k <;> exact h
        | exc _ _ _ => simp only [e2] at h; exact h
        | bad => simp only [e2] at h; exact h
    | exc _ _ _ => rw [e1] at h; exact h
    | bad => rw [e1] at h; exact h
  refine tD_of G h' fun t g1 e1 x H1 S1 F1 Fa t1 G1 r nd dj q => ?_
  by_cases hl : isLst (g1.getD v none) = true
  · rw [if_pos hl] at q
    obtain ⟨b, xs, hl⟩ := isLst_of hl
    obtain ⟨x0, _, hx0, _⟩ := G1.get hl
    refine ⟨x0, hx0, S1, g1, F1, G1, ?_⟩
    cases e2 : ev M i g1 with
    | bad => rw [e2] at q; exact q.elim
    | exc c fs g2 =>
      rw [e2] at q
      exact fun cls d H2 S2 F2 t2 G2 rx => q cls d σ H2 S2 F2 (t2.more fun b hb => List.mem_append_left _ hb) G2 PinEq.refl rx
    | ok k g2 =>
      rw [e2] at q
      intro xi H2 S2 F2 Fi t2 G2 ri ni di
      have q2 : outS C W Pn D σ S1 H1 (F1 ++ Fa) (setiEnd v t k g2) := q
      cases k <;> first | exact q2.elim | skip
      rename_i kk
      have r2 := t2.rp G1.own dj r
      have nf := t2.noF dj (Rp.own _ _ _ r)
      unfold setiEnd at q2
      simp only at q2
      split at q2
      · rename_i ys hv
        split at q2
        · rename_i j hj
          obtain ⟨p, vs, hp, hH, hlen, _, hset⟩ := own_set G2 hv r2 nd fun b hb hf => nf b hb (List.mem_append_left _ hf)
          rw [hx0] at hp
          cases hp
          obtain ⟨F3, G3, t3⟩ := hset j (ixN_lt hj)
          refine ⟨p, vs, kk, j, rfl, ri.1, hH, by rw [hlen]; exact hj, ?_⟩
          have t2' : Tr S1 H1 (F1 ++ Fa) S2 H2 (F2 ++ Fa) := (t2.sub' fun b hb => List.mem_append_left _ hb).aside
          exact q2 σ _ S2 F3 (t2'.trans t3) G3 PinEq.refl
        · exact q2.elim
      · exact q2.elim
  · rw [if_neg hl] at q; exact q.elim
/-- v[i] op= e -/
theorem ts_augi {D : Ends} {v : Nat} {i e : E} {o : Op} {f : Int → Int → Int} (ho : ∀ a b, opS o [.int a, .int b] = some (.int (f a b))) (h : tS C W M Pn (.augi v i o e) D σ H) : tAugS (tVar v) (tD C W M i) (tD C W M e) (rIxL C.K) (ipI f) rSetL D σ H := by
  obtain ⟨S, g, F, G, h⟩ := h
  unfold ex at h
  by_cases hl : isLst (g.getD v none) = true
  · rw [if_pos hl] at h
    obtain ⟨b, xs, hl⟩ := isLst_of hl
    obtain ⟨x0, Fx, hx0, rx0, _⟩ := G.get hl
    refine ⟨x0, hx0, ?_⟩
    have h' : outS C W Pn D σ S H F (thenS (ev M i g) fun t g => match t with | .int k => (match getI v k g with | some a => (match ev M e g with | .ok t g => augEnd v o k a t g | .exc c fs g => .exc c fs g | .bad => .bad) | none => .bad) | _ => .bad) := by
      cases e1 : ev M i g with
      | ok t g1 => rw [e1] at h; cases t <;> exact h
      | exc _ _ _ => rw [e1] at h; exact h
      | bad => rw [e1] at h; exact h
    refine tD_of G h' fun t g1 e1 x H1 S1 F1 Fa t1 G1 r nd dj q => ?_
    cases t <;> first | exact q.elim | skip
    rename_i k
    simp only at q
    have ri : x = .int k ∧ Fa = [] := r
    obtain ⟨rfl, rfl⟩ := ri
    unfold getI at q
    cases hv : g1.getD v none with
    | none => rw [hv] at q; exact q.elim
    | some u =>
      rw [hv] at q
      cases u <;> first | exact q.elim | skip
      rename_i b1 ys
      simp only at q
      cases ha : L2.atI ys k with
      | none => rw [ha] at q; exact q.elim
      | some w =>
        rw [ha] at q
        cases w <;> first | exact q.elim | skip
        rename_i a
        simp only at q
        obtain ⟨y0, Fy, hy0, ry0, _⟩ := G1.get hv
        rw [hx0] at hy0
        cases hy0
        obtain ⟨p, vs, F', ep, hp, rl, _⟩ := ry0
        obtain ⟨z, F2, hz, rz⟩ := atI_relF rl ha
        refine ⟨p, vs, k, z, ep, rfl, .of hp, hz, S1, g1, F1, G1, ?_⟩
        have q' : outS C W Pn D σ S1 H1 F1 (thenS (ev M e g1) fun t g => augEnd v o k a t g) := by
          rw [List.append_nil] at q
          cases e1 : ev M e g1 with
          | ok t g2 => rw [e1] at q; exact q
          | exc _ _ _ => rw [e1] at q; exact q
          | bad => rw [e1] at q; exact q
        clear q
        cases e2 : ev M e g1 with
        | bad => rw [e2] at q'; exact q'.elim
        | exc c fs g2 =>
          rw [e2] at q'
          exact fun cls d H2 S2 F2 t2 G2 rx => q' cls d σ H2 S2 F2 t2 G2 PinEq.refl rx
        | ok t g2 =>
          rw [e2] at q'
          intro xi H2 S2 F2 Fi t2 G2 ri ni di
          have q2 : outS C W Pn D σ S1 H1 F1 (augEnd v o k a t g2) := q'
          unfold augEnd at q2
          cases t <;> first | exact q2.elim | skip
          rename_i b2
          simp only [ho] at q2
          split at q2
          · rename_i ys2 hv2
            split at q2
            · rename_i j hj
              obtain ⟨p2, vs2, hp2, hH2, hlen, _, hset⟩ := own_set (t := .int (f a b2)) (x := .int (f a b2)) (F1 := []) G2 hv2 ⟨rfl, rfl⟩ List.nodup_nil fun b hb => nomatch hb
              rw [hx0, ep] at hp2
              cases hp2
              obtain ⟨F3, G3, t3⟩ := hset j (ixN_lt hj)
              obtain ⟨rfl, rfl⟩ : xi = .int b2 ∧ Fi = [] := ri
              rw [List.append_nil] at t2 t3
              refine ⟨a, b2, rz.1, rfl, p, vs2, k, j, ep, rfl, hH2, by rw [hlen]; exact hj, ?_⟩
              exact q2 σ _ S2 F3 (t2.trans t3) G3 PinEq.refl
            · exact q2.elim
          · exact q2.elim
  · rw [if_neg hl] at h; exact h.elim
/-- v.append(e) -/
def appEnd (v : Nat) (t : T) (g : Env) : Fl := match g.getD v none with
  | some (.lst true xs) => if xs.length < sizeLine then .nx (g.set v (some (.lst true (xs ++ [t])))) else .bad
  | _ => .bad
theorem ts_app {D : Ends} {v : Nat} {e : E} (h : tS C W M Pn (.app v e) D σ H) : tDrop (tBM C.K "list" rAppend (tVar v) (tCons (tD C W M e) tNil)) D σ H := by
  obtain ⟨S, g, F, G, h⟩ := h
  have h' : isLst (g.getD v none) = true ∧ outS C W Pn D σ S H F (thenS (ev M e g) fun t g => appEnd v t g) := by
    unfold ex at h
    cases e3 : g.getD v none with
    | none => rw [e3] at h; exact h.elim
    | some u =>
      rw [e3] at h
      cases u <;> first | exact h.elim | skip
      refine ⟨rfl, ?_⟩
      simp only at h
      cases e1 : ev M e g with
      | ok t g1 =>
        rw [e1] at h
        simp only [thenS, appEnd] at h ⊢
        exact h
      | exc _ _ _ => rw [e1] at h; exact h
      | bad => rw [e1] at h; exact h
  obtain ⟨hl, h'⟩ := h'
  obtain ⟨b, xs, hl⟩ := isLst_of hl
  obtain ⟨x0, Fx, hx0, rx0, _⟩ := G.get hl
  obtain ⟨p0, vs0, _, ex0, hp0, _⟩ := id rx0
  subst ex0
  refine ⟨.ref p0, hx0, .inl ⟨rfl, vs0, .of hp0⟩, ?_⟩
  refine tD_of G h' fun t g1 e1 x H1 S1 F1 Fa t1 G1 r nd dj q => ?_
  unfold appEnd at q
  split at q
  · rename_i ys hv
    split at q
    · rename_i hz
      obtain ⟨p, vs, hp, hH, hlen, ⟨F3, G3, t3⟩, _⟩ := own_set G1 hv r nd dj
      rw [hx0] at hp
      cases hp
      exact ⟨p0, vs, x, rfl, rfl, hH, by rw [hlen]; exact hz, q σ _ S1 F3 t3 G3 PinEq.refl⟩
    · exact q.elim
  · exact q.elim
theorem ts_aug {D : Ends} {v : Nat} {o : Op} {e : E} {f : Int → Int → Int} (ho : ∀ a b, opS o [.int a, .int b] = some (.int (f a b))) (h : tS C W M Pn (.aug v o e) D σ H) : tAug v (tD C W M e) (ipI f) D σ H := by
  obtain ⟨S, g, F, G, h⟩ := h
  unfold ex at h
  cases e3 : g.getD v none with
  | none => rw [e3] at h; exact h.elim
  | some u =>
    rw [e3] at h
    cases u <;> first | exact h.elim | skip
    rename_i a
    obtain ⟨x0, Fx, hx0, rx0, _⟩ := G.get e3
    refine ⟨x0, hx0, ?_⟩
    simp only at h
    have h' : outS C W Pn D σ S H F (thenS (ev M e g) fun t g => match t with | .int b => (match put1 v (.int (f a b)) Pn g with | some g => .nx g | none => .bad) | _ => .bad) := by
      cases e1 : ev M e g with
      | ok t g1 =>
        rw [e1] at h
        cases t <;> first | exact h | skip
        simp only [ho] at h
        exact h
      | exc _ _ _ => rw [e1] at h; exact h
      | bad => rw [e1] at h; exact h
    refine tD_of G h' fun t g1 e1 x H1 S1 F1 Fa t1 G1 r nd dj q => ?_
    cases t <;> first | exact q.elim | skip
    rename_i b
    simp only at q
    refine ⟨a, b, rx0.1, r.1, ?_⟩
    cases e2 : put1 v (.int (f a b)) Pn g1 with
    | none => simp only [e2] at q; exact q.elim
    | some g2 =>
      simp only [e2] at q
      obtain ⟨F2, G2, a2, p2, _⟩ := put1_ok (x := .int (f a b)) (F1 := []) G1 (rp_i S1 H1) List.nodup_nil (fun b hb => nomatch hb) e2
      exact q _ H1 S1 F2 (Tr.refl.sub' fun b hb => List.mem_append_left _ ((a2 b hb).elim id fun z => nomatch z)) G2 p2
theorem lf_rel : ∀ {g : Env} {σ : St} {F : List Addr}, RpG C S H g σ F → lfG g = true → RpG C S' H g σ []
  | [], σ, F, h, _ => ⟨h.1, rfl⟩
  | none :: g, σ, F, ⟨y, τ, e, h⟩, hl => ⟨y, τ, e, lf_rel h hl⟩
  | some t :: g, σ, F, ⟨x, τ, F1, F2, e, eF, h1, h2⟩, hl => by
    have hl' : (t.lf && lfG g) = true := hl
    rw [Bool.and_eq_true] at hl'
    refine ⟨x, τ, [], [], e, rfl, ?_, lf_rel h2 hl'.2⟩
    have ht := hl'.1
    cases t with
    | non => exact ⟨h1.1, rfl⟩
    | bl _ => exact ⟨h1.1, rfl⟩
    | int _ => exact ⟨h1.1, rfl⟩
    | str _ => exact ⟨h1.1, rfl⟩
    | scr _ => exact ⟨rfl, h1.2⟩
    | dic _ => exact ⟨rfl, h1.2⟩
    | lst _ _ => cases ht
    | tup _ => cases ht
    | exc _ _ => cases ht
/-- a statement with one name frozen meanwhile -/
theorem ts_hldL {D : Ends} {i : Nat} {s : Sm} (h : tS C W M Pn (.hldL i s) D σ H) : tS C W M (i :: Pn) s D σ H := by
  obtain ⟨S, g, F, G, h⟩ := h
  unfold ex at h
  cases e : g.getD i none with
  | none => rw [e] at h; exact h.elim
  | some t =>
    rw [e] at h
    simp only at h
    obtain ⟨Fr, Fi, hs, G1, n1, d1, hm⟩ := G.take (getD_lt e)
    rw [e] at hs
    obtain ⟨x, hx, r⟩ := hs
    have own := Rp.own t x Fi r
    have G2 := G1.grow d1 (fun b hb => (own b hb).2)
    have r2 : Rp C (SF S Fi) H t.fz x [] := Rp.froz (fun a z => .inl z) t x Fi (fun b hb => .inr hb) r
    obtain ⟨F3, G3, c1, _⟩ := G2.put (i := i) (o := some t.fz) (y := σ.getD i none) (by rw [List.length_set]; exact getD_lt e) ⟨x, hx, r2⟩ List.nodup_nil (fun b hb => nomatch hb)
    rw [List.set_set, set_getD] at G3
    have F3r : ∀ b ∈ F3, b ∈ Fr := fun b hb => (c1 b hb).elim id fun z => nomatch z
    have hxs := slot_some (by rw [G.len]; exact getD_lt e) hx
    refine ⟨_, _, F3, G3, ?_⟩
    generalize ex M s (i :: Pn) (g.set i (some t.fz)) = r0 at h ⊢
    cases r0 with
    | nx g1 =>
      simp only at h
      by_cases hl : lfG (g1.set i none) = true
      · rw [if_pos hl] at h
        intro υ H2 S2 F2 t2 G4 pq
        have hxu : υ[i]? = some (some x) := (pq i List.mem_cons_self).trans hxs
        have hiu : i < υ.length := (List.getElem?_eq_some_iff.mp hxu).1
        have hi2 : i < g1.length := by rw [← G4.len]; exact hiu
        obtain ⟨Fr4, Fi4, _, G5, _⟩ := G4.take hi2
        have st : Stays S Fi H H2 := fun b o e z => t2.keep b o e fun hb => by
          have hb' := F3r b hb
          rcases z with z | z | z
          · exact (G1.own b hb').1 z
          · exact d1 b z hb'
          · obtain ⟨_, ys, e'⟩ := G1.own b hb'
            rw [e] at e'
            exact z ys (Option.some.inj e')
        have G6 : Good C S H2 (g1.set i none) υ [] := ⟨lf_rel G5.rel hl, List.nodup_nil, fun a z => by
          obtain ⟨ys, e⟩ := G.sdom a z
          exact ⟨ys, st a _ e (.inl z)⟩⟩
        have r6 : Rp C S H2 t x Fi := Rp.stay (fun _ z => z) t x Fi st (fun b hb => (own b hb).1) r
        obtain ⟨F7, G7, k1, _⟩ := G6.put (i := i) (o := some t) (y := υ.getD i none) (by rw [List.length_set]; exact hi2) ⟨x, by rw [List.getD_eq_getElem?_getD, hxu]; rfl, r6⟩ n1 (fun b _ hb => nomatch hb)
        rw [List.set_set, set_getD] at G7
        exact h υ H2 S F7 ⟨fun _ z => z, fun b o e hn => t2.keep b o e fun hb => hn ((hm b).mpr (.inl (F3r b hb))), fun b z => .inl z, fun b hb => .inl ((hm b).mpr (.inr ((k1 b hb).elim (fun z => nomatch z) id))), t2.dom⟩ G7 fun j hj => pq j (List.mem_cons_of_mem _ hj)
      · rw [if_neg hl] at h; exact h.elim
    | bk g1 => exact h.elim
    | ct g1 => exact h.elim
    | rt t1 g1 => exact h.elim
    | exc c fs g1 => exact h.elim
    | bad => exact h.elim
end Kv

/-! Kv 14: loops. -/
namespace Kv
open PySem L2
variable {P : Prg} {C : RC} {S S' : Addr → Prop} {H H' : Hp} {X : Cx} {W : WX} {M : Fns} {σ τ : St} {n : Nat} {Z : Nm} {Pn : List Nat}

theorem pinEq_of {i : Nat} {Pn : List Nat} (h : PinEq (i :: Pn) σ τ) : PinEq Pn σ τ ∧ τ[i]? = σ[i]? := ⟨fun j hj => h j (List.mem_cons_of_mem _ hj), h i List.mem_cons_self⟩
theorem pinIt_sub {p : Option (Nat × T)} (h : PinEq (pinIt p Pn) σ τ) : PinEq Pn σ τ := by
  cases p with
  | none => exact h
  | some it => exact (pinEq_of h).1
/-- behind a loop: the walked list is put back -/
theorem Good.unIt {g : Env} {F Fl : List Addr} {p : Option (Nat × T)} {S0 : Addr → Prop} {H0 : Hp} (G : Good C S H g τ F) (b : BackOk C S0 H0 σ Fl p) (pe : PinEq (pinIt p Pn) σ τ) (st : ∀ t x, Rp C S0 H0 t x Fl → Rp C S H t x Fl) (nl : Fl.Nodup) (dl : Dj Fl F) :
    ∃ F2, Good C S H (Kv.unIt p g) τ F2 ∧ ∀ b ∈ F2, b ∈ F ∨ b ∈ Fl := by
  cases p with
  | none => exact ⟨F, G, fun b hb => .inl hb⟩
  | some it =>
    obtain ⟨i, t⟩ := it
    obtain ⟨x, hx, rx⟩ := b
    have hi := (pinEq_of pe).2
    have hi' : τ[i]? = some (some x) := hi.trans hx
    obtain ⟨F2, G2, a2, _⟩ := G.put (i := i) (by rw [← G.len]; exact (List.getElem?_eq_some_iff.mp hi').1) (o := some t) (y := τ.getD i none) (Fi := Fl) ⟨x, by rw [List.getD_eq_getElem?_getD, hi']; rfl, st t x rx⟩ nl dl
    rw [set_getD] at G2
    exact ⟨F2, G2, a2⟩
theorem ts_loop {D : Ends} {tg : Tg} {it : Kv.It} {body : Sms} (h : tS C W M Pn (.loop tg it body) D σ H) :
    ∃ Pm, tFor (siT C W M it) (tgT C.K tg) (tSs C W M Pm body) D σ H := by
  obtain ⟨S, g, F, G, h⟩ := h
  unfold ex at h
  cases e : itS M it g with
  | bad => rw [e] at h; exact ⟨[], S, g, F, G, by rw [e]; exact h⟩
  | exc c fs g1 =>
    rw [e] at h
    exact ⟨[], S, g, F, G, by rw [e]; exact fun cls d H1 S1 F1 t1 G1 x => h cls d σ H1 S1 F1 t1 G1 PinEq.refl x⟩
  | ok p g1 =>
    rw [e] at h
    refine ⟨pinIt p.2 Pn, S, g, F, G, ?_⟩
    rw [e]
    intro J H1 S1 F1 Fl t1 G1 nl dl src back
    have own1 := G1.own
    have fin : outS C W (pinIt p.2 Pn) D σ S1 H1 F1 (loopL (fun t g => tg.put t (pinIt p.2 Pn) g) (exs M body (pinIt p.2 Pn)) p.1 g1) := by
      have put : ∀ {τ : St} {H2 : Hp} {S2 : Addr → Prop} {F2 : List Addr} {Fx : List Addr} {g2 : Env}, Tr S1 H1 F1 S2 H2 (F2 ++ Fx) → Good C S2 H2 g2 τ F2 → PinEq (pinIt p.2 Pn) σ τ → ∃ F3, Good C S2 H2 (Kv.unIt p.2 g2) τ F3 ∧ Tr S H F S2 H2 (F3 ++ Fx) ∧ (∀ b ∈ F3, b ∈ F2 ∨ b ∈ Fl) ∧ Dj Fl Fx := by
        intro τ H2 S2 F2 Fx g2 t2 G2 pe
        have nf := t2.noF dl src.own
        obtain ⟨F3, G3, a3⟩ := G2.unIt back pe (fun t x r => t2.rp own1 dl r) nl fun b hb hf => nf b hb (List.mem_append_left _ hf)
        refine ⟨F3, G3, (t1.trans t2.aside).sub' fun b hb => ?_, a3, fun b hb hf => nf b hb (List.mem_append_right _ hf)⟩
        rcases List.mem_append.mp hb with z | z
        · rcases a3 b z with z | z
          · exact List.mem_append_left _ (List.mem_append_left _ z)
          · exact List.mem_append_right _ z
        · exact List.mem_append_left _ (List.mem_append_right _ z)
      have n2 : ∀ {F2 : List Addr} {S2 : Addr → Prop} {H2 : Hp}, Tr S1 H1 F1 S2 H2 F2 → Tr S1 H1 F1 S2 H2 (F2 ++ []) := fun {F2 S2 H2} t => t.sub' fun b hb => by rw [List.append_nil] at hb; exact hb
      have n3 : ∀ {F2 : List Addr} {S2 : Addr → Prop} {H2 : Hp}, Tr S H F S2 H2 (F2 ++ []) → Tr S H F S2 H2 F2 := fun {F2 S2 H2} t => t.sub' fun b hb => by rw [List.append_nil]; exact hb
      replace h : outS C W Pn D σ S H F ((loopL (fun t g => tg.put t (pinIt p.2 Pn) g) (exs M body (pinIt p.2 Pn)) p.1 g1).upd (Kv.unIt p.2)) := h
      cases e2 : loopL (fun t g => tg.put t (pinIt p.2 Pn) g) (exs M body (pinIt p.2 Pn)) p.1 g1 with
      | nx g2 =>
        rw [e2] at h
        intro τ H2 S2 F2 t2 G2 pe
        obtain ⟨F3, G3, t3, _⟩ := put (n2 t2) G2 pe
        exact h τ H2 S2 F3 (n3 t3) G3 (pinIt_sub pe)
      | bk g2 =>
        rw [e2] at h
        intro τ H2 S2 F2 t2 G2 pe
        obtain ⟨F3, G3, t3, _⟩ := put (n2 t2) G2 pe
        exact h τ H2 S2 F3 (n3 t3) G3 (pinIt_sub pe)
      | ct g2 =>
        rw [e2] at h
        intro τ H2 S2 F2 t2 G2 pe
        obtain ⟨F3, G3, t3, _⟩ := put (n2 t2) G2 pe
        exact h τ H2 S2 F3 (n3 t3) G3 (pinIt_sub pe)
      | rt t g2 =>
        rw [e2] at h
        intro τ x H2 S2 F2 Fx t2 G2 pe r nx dx
        obtain ⟨F3, G3, t3, a3, dlx⟩ := put t2 G2 pe
        exact h τ x H2 S2 F3 Fx t3 G3 (pinIt_sub pe) r nx fun b hb hf => (a3 b hf).elim (dx b hb) fun z => dlx b z hb
      | exc c fs g2 =>
        rw [e2] at h
        intro cls d τ H2 S2 F2 t2 G2 pe x
        obtain ⟨F3, G3, t3, _⟩ := put (n2 t2) G2 pe
        exact h cls d τ H2 S2 F3 (n3 t3) G3 (pinIt_sub pe) x
      | bad => rw [e2] at h; exact h
    clear h
    generalize hPm : pinIt p.2 Pn = Pm at fin ⊢
    refine ⟨fun i m σ3 H3 => m = p.1.length - i ∧ ∃ S3 g3 F3, Tr S1 H1 F1 S3 H3 F3 ∧ Good C S3 H3 g3 σ3 F3 ∧ PinEq Pm σ σ3 ∧ outS C W Pm D σ S1 H1 F1 (loopL (fun t g => tg.put t Pm g) (exs M body Pm) (p.1.drop i) g3), ⟨p.1.length, by simp, S1, g1, F1, Tr.refl, G1, PinEq.refl, by rw [List.drop_zero]; exact fin⟩, ?_⟩
    rintro i m σ3 H3 ⟨rfl, S3, g3, F3, t3, G3, p3, f3⟩
    obtain ⟨hgo, hstop, hyld⟩ := src.run S3 H3 t3.sub (t3.stays own1 dl) (t3.noS dl src.own)
    by_cases hi : i < p.1.length
    · rw [drop_cons hi] at f3
      unfold loopL at f3
      refine .inr ⟨hgo i hi, fun σ4 H4 => ∃ S4 g4 F4, Tr S1 H1 F1 S4 H4 F4 ∧ Good C S4 H4 g4 σ4 F4 ∧ PinEq Pm σ σ4 ∧ outS C W Pm D σ S1 H1 F1 (loopL (fun t g => tg.put t Pm g) (exs M body Pm) (p.1.drop (i + 1)) g4), fun σ' H' hN => ⟨_, by omega, rfl, hN⟩, fun x H4 hy => ?_⟩
      obtain ⟨k4, rx⟩ := hyld i x H4 hy _ (List.getElem?_eq_getElem hi)
      cases e3 : tg.put p.1[i] Pm g3 with
      | none => simp only [e3] at f3; exact f3.elim
      | some g4 =>
        simp only [e3] at f3
        obtain ⟨S5, σ5, F5, t5, G5, p5, _, q5⟩ := tgt_ok (G3.same k4) rx List.nodup_nil (fun b hb => nomatch hb) e3
        have T5 : Tr S1 H1 F1 S5 H4 F5 := (t3.trans (Tr.alloc (F1 := []) k4 fun b hb => nomatch hb)).trans t5
        have P5 := p3.trans p5
        refine q5 _ ⟨S5, g4, F5, G5, ?_⟩
        cases e6 : exs M body Pm g4 with
        | nx g6 =>
          simp only [e6] at f3
          exact fun τ H6 S6 F6 t6 G6 p6 => ⟨S6, g6, F6, T5.trans t6, G6, P5.trans p6, f3⟩
        | ct g6 =>
          simp only [e6] at f3
          exact fun τ H6 S6 F6 t6 G6 p6 => ⟨S6, g6, F6, T5.trans t6, G6, P5.trans p6, f3⟩
        | bk g6 =>
          simp only [e6] at f3
          exact fun τ H6 S6 F6 t6 G6 p6 => f3 τ H6 S6 F6 (T5.trans t6) G6 (P5.trans p6)
        | rt t g6 =>
          simp only [e6] at f3
          exact fun τ y H6 S6 F6 Fy t6 G6 p6 => f3 τ y H6 S6 F6 Fy (T5.trans t6) G6 (P5.trans p6)
        | exc c fs g6 =>
          simp only [e6] at f3
          exact fun cls d τ H6 S6 F6 t6 G6 p6 => f3 cls d τ H6 S6 F6 (T5.trans t6) G6 (P5.trans p6)
        | bad => simp only [e6] at f3; exact f3
    · rw [List.drop_eq_nil_of_le (by omega)] at f3
      exact .inl ⟨hstop i (by omega), f3 σ3 H3 S3 F3 t3 G3 p3⟩
theorem ts_whl {D : Ends} {c : E} {body : Sms} (h : tS C W M Pn (.whl c body) D σ H) : tWhile (tB (tD C W M c)) (tSs C W M Pn body) D σ H := by
  obtain ⟨S, g, F, G, h⟩ := h
  unfold ex at h
  generalize fuelW = N at h
  refine ⟨fun m σ3 H3 => ∃ S3 g3 F3, Tr S H F S3 H3 F3 ∧ Good C S3 H3 g3 σ3 F3 ∧ PinEq Pn σ σ3 ∧ outS C W Pn D σ S H F (whlN (ev M c) (exs M body Pn) m g3), ⟨N, S, g, F, Tr.refl, G, PinEq.refl, h⟩, ?_⟩
  rintro m σ3 H3 ⟨S3, g3, F3, t3, G3, p3, f3⟩
  cases m with
  | zero => exact f3.elim
  | succ m =>
    unfold whlN at f3
    refine ⟨S3, g3, F3, G3, ?_⟩
    cases e1 : ev M c g3 with
    | bad => simp only [e1] at f3; exact f3
    | exc k fs g1 =>
      simp only [e1] at f3
      exact fun cls d H4 S4 F4 t4 G4 x => f3 cls d σ3 H4 S4 F4 (t3.trans t4) G4 p3 x
    | ok t g1 =>
      simp only [e1] at f3
      intro x H4 S4 F4 Fx t4 G4 r nd dj
      have t4' : Tr S H F S4 H4 F4 := t3.trans (t4.sub' fun b hb => List.mem_append_left _ hb)
      cases t <;> first | exact f3.elim | skip
      rename_i bb
      cases bb with
      | false => exact ⟨false, r.1, iteF (f3 σ3 H4 S4 F4 t4' G4 p3)⟩
      | true =>
        refine ⟨true, r.1, iteT ⟨fun σ6 H6 => ∃ S6 g6 F6, Tr S H F S6 H6 F6 ∧ Good C S6 H6 g6 σ6 F6 ∧ PinEq Pn σ σ6 ∧ outS C W Pn D σ S H F (whlN (ev M c) (exs M body Pn) m g6), fun σ' H' hN => ⟨m, Nat.lt_succ_self m, hN⟩, S4, g1, F4, G4, ?_⟩⟩
        cases e6 : exs M body Pn g1 with
        | nx g6 =>
          simp only [e6] at f3
          exact fun τ H6 S6 F6 t6 G6 p6 => ⟨S6, g6, F6, t4'.trans t6, G6, p3.trans p6, f3⟩
        | ct g6 =>
          simp only [e6] at f3
          exact fun τ H6 S6 F6 t6 G6 p6 => ⟨S6, g6, F6, t4'.trans t6, G6, p3.trans p6, f3⟩
        | bk g6 =>
          simp only [e6] at f3
          exact fun τ H6 S6 F6 t6 G6 p6 => f3 τ H6 S6 F6 (t4'.trans t6) G6 (p3.trans p6)
        | rt t g6 =>
          simp only [e6] at f3
          exact fun τ y H6 S6 F6 Fy t6 G6 p6 => f3 τ y H6 S6 F6 Fy (t4'.trans t6) G6 (p3.trans p6)
        | exc c fs g6 =>
          simp only [e6] at f3
          exact fun cls d τ H6 S6 F6 t6 G6 p6 => f3 cls d τ H6 S6 F6 (t4'.trans t6) G6 (p3.trans p6)
        | bad => simp only [e6] at f3; exact f3
end Kv

/-! Kv 15: errors are made and raised. -/
namespace Kv
open PySem L2 PySem.Spec PyProof.Rows
/-- the promise of a class's __init__ -/
def spIn (A : Addr) (ns : List Str) : Sp := fun vs H Q E => ∃ a us, vs = .ref a :: us ∧ us.length = ns.length ∧ H a = some (exo a A none) ∧
  ∀ dx H2 ys, H dx = none → dx ≠ a → H2 a = some (exo a A (some dx)) → H2 dx = some (exd dx ys) → (∀ b, b ≠ a → b ≠ dx → H2 b = H b) → FldsAt ns us ys → Q .non H2
def inBody : List Str → List Stmt → Bool
  | [], [] => true
  | f :: fs, .Assign [.Attribute (.Name s _) g _] (.Name h _) _ :: r => decide (s = ("self" : Str)) && decide (g = f) && decide (h = f) && noDbg f && inBody fs r
  | _, _ => false
def tInit (K : PySem.W.Frag) : Nat → List Str → TS
  | _, [] => tNext
  | i, f :: fs => tSeq (tOst K f (tVar 0) (tVar i)) (tInit K (i + 1) fs)
theorem init_pss {X : Cx} (hv : ∀ x ∈ X.N, Vis X.env.scope x) (h0 : X.N[0]? = some ("self" : Str)) : ∀ (fs : List Str) (body : List Stmt) (i : Nat), inBody fs body = true → (∀ j f, fs[j]? = some f → X.N[i + j]? = some f) → PSs X body (tInit X.K i fs)
  | [], body, i, h, _ => by
    cases body with
    | nil => exact pss_nil
    | cons _ _ => cases h
  | f :: fs, body, i, h, hN => by
    unfold inBody at h
    split at h
    · rename_i e2
      cases e2
    · rename_i f' fs' s p1 g p2 h' p3 p4 r e1
      cases e1
      simp only [Bool.and_eq_true, decide_eq_true_eq] at h
      obtain ⟨⟨⟨⟨h1, h2⟩, h3⟩, h4⟩, h5⟩ := h
      subst h1 h2 h3
      obtain ⟨d1, d2⟩ := dbg_of h4
      have hi : X.N[i]? = some h' := hN 0 h' rfl
      exact pss_cons (ps_ost (pe_var h0 (hv _ (List.mem_of_getElem? h0)) (by decide) (by decide)) (pe_var hi (hv _ (List.mem_of_getElem? hi)) d1 d2))
        (init_pss hv h0 fs r (i + 1) h5 fun j f' e => by
          have := hN (j + 1) f' e
          rw [show i + (j + 1) = i + 1 + j by omega] at this
          exact this)
    · cases h
section
variable {K : PySem.W.Frag} {A a dx : Addr} {σ : L2.St} {D : Ends}
theorem init_rest (T : OexC K A) (h0 : σ[0]? = some (some (.ref a))) : ∀ (fs : List Str) (us : List V) (i : Nat) (H : Hp) (ys : List (Str × V)), fs.Nodup → (∀ f ∈ fs, PySem.W.findIn K (.ref A) f = some none) → us.length = fs.length → (∀ j v, us[j]? = some v → σ[i + j]? = some (some v)) →
    H a = some (exo a A (some dx)) → H dx = some (exd dx ys) → dx ≠ a → ys.length + fs.length ≤ 900 →
    (∀ H2 ys2, H2 a = some (exo a A (some dx)) → H2 dx = some (exd dx ys2) → (∀ b, b ≠ a → b ≠ dx → H2 b = H b) → (∀ f v, ys.lookup f = some v → f ∉ fs → ys2.lookup f = some v) → FldsAt fs us ys2 → D.nx σ H2) → tInit K i fs D σ H
  | [], us, i, H, ys, _, _, hl, _, ha, hd, _, _, k => k H ys ha hd (fun _ _ _ => rfl) (fun _ _ h _ => h) (fun j f h => by cases h)
  | f :: fs, [], i, H, ys, _, _, hl, _, _, _, _, _, _ => by cases hl
  | f :: fs, u :: us, i, H, ys, nd, hn, hl, hs, ha, hd, ne, hz, k => by
    obtain ⟨nf, nd'⟩ := List.nodup_cons.mp nd
    have hz' : ys.length + (fs.length + 1) ≤ 900 := hz
    refine ⟨u, hs 0 u rfl, .ref a, h0, a, A, rfl, T, hn f List.mem_cons_self, .inr ⟨dx, ys, ha, hd, by omega, ?_⟩⟩
    refine init_rest T h0 fs us (i + 1) (upd H dx (exd dx ((f, u) :: ys))) ((f, u) :: ys) nd' (fun g hg => hn g (List.mem_cons_of_mem _ hg)) (by simpa using hl) (fun j v e => ?_) ?_ upd_same ne (by rw [List.length_cons]; omega) fun H2 ys2 a2 d2 o2 l2 f2 => ?_
    · have := hs (j + 1) v e
      rw [show i + (j + 1) = i + 1 + j by omega] at this
      exact this
    · rw [upd_ne (Ne.symm ne)]; exact ha
    · refine k H2 ys2 a2 d2 (fun b b1 b2 => (o2 b b1 b2).trans (upd_ne b2)) (fun g v hg hng => ?_) fun j g e => ?_
      · have gf : g ≠ f := fun e => hng (e ▸ List.mem_cons_self)
        exact l2 g v (by rw [lookup_put, if_neg gf]; exact hg) fun z => hng (List.mem_cons_of_mem _ z)
      · cases j with
        | zero =>
          obtain rfl : f = g := Option.some.inj e
          exact ⟨u, rfl, l2 f u (by rw [lookup_put, if_pos rfl]) nf⟩
        | succ j => exact f2 j g e
theorem init_pure {ns : List Str} (T : OexC K A) (hne : ns ≠ []) (nd : ns.Nodup) (hn : ∀ f ∈ ns, PySem.W.findIn K (.ref A) f = some none) (hz : ns.length ≤ 100) (vs : List V) (H : Hp) (Q : VK) (E : XK) (h : spIn A ns vs H Q E) :
    tInit K 1 ns { nx := fun _ H' => Q .non H', rt := Q } (L2.start ("self" :: ns) vs) H := by
  obtain ⟨a, us, rfl, hl, ha, k⟩ := h
  have hs : ∀ j v, (V.ref a :: us)[j]? = some v → (L2.start ("self" :: ns) (V.ref a :: us))[j]? = some (some v) := fun j v e => by
    unfold L2.start
    rw [List.getElem?_append_left (by rw [List.length_map]; exact (List.getElem?_eq_some_iff.mp e).1), List.getElem?_map, e]
    rfl
  cases ns with
  | nil => exact absurd rfl hne
  | cons f fs =>
    cases us with
    | nil => cases hl
    | cons u us =>
      obtain ⟨nf, nd'⟩ := List.nodup_cons.mp nd
      have h0 := hs 0 _ rfl
      refine ⟨u, hs 1 u rfl, .ref a, h0, a, A, rfl, T, hn f List.mem_cons_self, .inl ⟨ha, fun dx hd ne => ?_⟩⟩
      refine init_rest T h0 fs us 2 _ [(f, u)] nd' (fun g hg => hn g (List.mem_cons_of_mem _ hg)) (by simpa using hl) (fun j v e => ?_) upd_same ?_ ne (by simp at hz ⊢; omega) fun H2 ys2 a2 d2 o2 l2 f2 => ?_
      · have := hs (j + 2) v e
        rw [show j + 2 = 2 + j by omega] at this
        exact this
      · rw [upd_ne ne]; exact upd_same
      · refine k dx H2 ys2 hd ne a2 d2 (fun b b1 b2 => by rw [o2 b b1 b2, upd_ne b1, upd_ne b2]) fun j g e => ?_
        cases j with
        | zero =>
          obtain rfl : f = g := Option.some.inj e
          exact ⟨u, rfl, l2 f u (by rw [lookup_put, if_pos rfl]) nf⟩
        | succ j => exact f2 j g e
end
/-- a class that may be raised -/
structure MkC (P : Program) (w : World) (K : PySem.W.Frag) (mg : Str → Option Value) (base : Heap) (cad : Nat → Addr) (c : Nat) : Prop where
  T : OexC K (cad c)
  ini : ∃ fI fd, PySem.W.findIn K (.ref (cad c)) "__init__" = some (some (.ref fI)) ∧ PySem.W.typeIn K (.ref fI) = some (.type "function") ∧ Binds K fd ("self" :: flds c) [] ∧ FnOk P w K mg base (L2N.CX P w) 1 fI fd ("self" :: flds c) (spIn (cad c) (flds c))
/-- the __init__ of a class keeps its promise -/
theorem init_ok {P : Program} {w : World} {K : PySem.W.Frag} {mg : Str → Option Value} {base : Heap} {A fI : Addr} {ns : List Str} {x qual : Str} {st : Stmt} {fd : FuncData} (F : Fun K x qual st fI fd) (S : FnScope ("self" :: ns) ("self" :: ns) (defScope st)) (hb : inBody ns (defBody st) = true)
    (T : OexC K A) (hne : ns ≠ []) (hn : ∀ f ∈ ns, PySem.W.findIn K (.ref A) f = some none) (hz : ns.length ≤ 100) : FnOk P w K mg base (L2N.CX P w) 1 fI fd ("self" :: ns) (spIn A ns) := by
  obtain ⟨oc, od, kV, doc, pm, an, cdv, ct, osl, rfl, lk, hcd⟩ := F.ex
  refine fn_of lk hcd S (fun vs H Q E h => ?_) fun Ar outer s H vs Q E hr hsp => ⟨tInit K 1 ns, ?_, init_pure T hne (List.nodup_cons.mp S.nd).2 hn hz vs H Q E hsp⟩
  · obtain ⟨a, us, rfl, hl, _⟩ := h
    rw [List.length_cons, List.length_cons, hl]
  · exact init_pss (X := cxOf (L2N.CX P w) P w K mg base ("self" :: ns) qual (defScope st) fI cdv Ar outer s H E) (fun y hy => (S.par y hy).imp id .inl) rfl ns (defBody st) 1 hb fun j f e => by
      rw [show 1 + j = j + 1 by omega]
      exact e
/-- C(e, ..) where nothing is handled -/
theorem pmk_oexN {X : Cx} {e : Expr} {es : List Expr} {ta : TA} {p pos : Pos} {CX : CXT} {x : Str} {A fI : Addr} {k : Nat} {fd : FuncData} {ps : List Str} {sp : Sp} (T : OexC X.K A) (iC : PySem.W.findIn X.K (.ref A) "__init__" = some (some (.ref fI))) (tI : PySem.W.typeIn X.K (.ref fI) = some (.type "function"))
    (F1 : FnOk X.prog X.w X.K X.mg X.base CX k fI fd ps sp) (hr : Room (k + 1) X.A) (hb : Binds X.K fd ps []) (hx : Passes CX X (fun _ _ _ => False)) (hg : Gl X x) (hm : X.mg x = some (.ref A)) (ha : PA X (e :: es) ta)
    (hdb : (x == ("__debug__" : Str)) = false) (he : starEach (e :: es) X.env = (false, eval e X.env) :: starEach es X.env) (hpl : (backTo pos (starEach es X.env)).any (·.1) = false) :
    L2N.PMk X (.Call (.Name x p) (e :: es) [] pos) (tMkO A sp [] ta) := by
  intro pins s σ H Q I h
  obtain ⟨nm, q, N, bs, bm, sn, sub, ab, col, dd, k0, k1, k2, k3, k5, hC, hbm⟩ := T.cls
  refine wpAny_Call_Name_kw (ld_glob I hg hm ?_ hdb)
  refine PySem.W.callWith_K (h₀ := X.base) I.ok.mod.kin T.kC (thn (ha.run pos pins s σ H _ I h) fun us s1 ⟨vs, H1, I1, r1, hz, q1⟩ => ⟨I1.kIn, ?_⟩) he hpl
  show wpAny _ _ (call (.ref A) us) _ _ _
  obtain ⟨hp, g, dr, tk, os⟩ := s1
  have hsz : hp.objs.size ≤ hp.objs.size + 1 := Nat.le_succ _
  have hn : H1 (hp.objs.size + 1) = none := I1.hok.fresh hsz
  have hq := q1 (hp.objs.size + 1) hn
  rw [List.append_nil] at hq
  have kk : ∀ b o, hp.get? b = some o → ((hp.push (PySem.W.kdv_tup us)).push (PySem.HandSPX.excO A hp.objs.size)).get? b = some o := fun b o e => Heap.get?_push_of_some _ (Heap.get?_push_of_some _ e)
  have hget : ((hp.push (PySem.W.kdv_tup us)).push (PySem.HandSPX.excO A hp.objs.size)).get? (hp.objs.size + 1) = some (PySem.HandSPX.excO A hp.objs.size) := by heap_get
  have I2 := I1.laid (t' := tk) (a := hp.objs.size + 1) (o := exo (hp.objs.size + 1) A none) (h' := (hp.push (PySem.W.kdv_tup us)).push (PySem.HandSPX.excO A hp.objs.size)) kk hsz (exo_ok hget)
  have r2 : Vals (V.ref (hp.objs.size + 1) :: vs) (Value.ref (hp.objs.size + 1) :: us) := .cons rfl r1
  have hl : (Value.ref (hp.objs.size + 1) :: us ++ []).length = ps.length := by
    rw [List.append_nil, ← r2.length]
    exact F1.len _ _ _ _ hq
  have hbb := hb ⟨(hp.push (PySem.W.kdv_tup us)).push (PySem.HandSPX.excO A hp.objs.size), g, dr, tk, os⟩ (Value.ref (hp.objs.size + 1) :: us) I2.kIn hl
  rw [List.append_nil] at hbb
  have hus : us.length ≤ sizeLine := by
    rw [← Paired.length r1, sizeLine_eq]
    omega
  refine wpAny_call (PySem.HandSPX.call_own F.excBase_ValueError (fun Y => PySem.HandSPX.refsVE_contains Y bm hbm) (I1.kIn _ _ hC) (PySem.W.looks_findIn I1.kIn iC) (fun self => PySem.W.bind_fn I1.kIn self tI) hus
    (codeAny_mono (F1.run _ X.stack _ _ ⟨Value.ref (hp.objs.size + 1) :: us, []⟩ (Value.ref (hp.objs.size + 1) :: us) _ _ (fun _ _ _ => False) (hr.make A us []) (I2.env0.make A us []) hbb r2 hq) fun r s' hq' => ?_))
  cases r with
  | error er => exact hx pins σ _ _ er s' I2 hq'
  | ok fl =>
    cases fl with
    | ret u =>
      obtain ⟨v, H2, os2, bare2, un2, hok2, rv, ev, d, fs, ea, ed, hd1, q2⟩ := hq'
      subst ev
      obtain ⟨h2, g2, d2, t2, os'⟩ := s'
      obtain ⟨t0, G, J, kG, ge, hoe, na⟩ := mk_end0 (d2 := d2) (t2 := t2) I1 hsz kk un2 hok2 os2 bare2 ea ed hd1
      exact ⟨rv, _, _, _, ⟨G, g2, d2, t2, os'⟩, _, .ref A, some d, rfl, J, kG, ge, hoe, ⟨rfl, rfl, fun vs e => by cases e; rfl⟩, rfl, rfl, na, rfl, bare2, raises_own T.exC T.tyC, q2⟩
    | next => exact False.elim hq'
    | brk => exact False.elim hq'
    | cont => exact False.elim hq'
variable {P : Prg} {C : RC} {S S' : Addr → Prop} {H H' : Hp} {X : Cx} {W : WX} {M : Fns} {σ τ : L2.St} {n : Nat} {Z : Nm} {Pn : List Nat}
theorem ts_rais {D : Ends} {c : Nat} {es : Es} (hz : (flds c).length ≤ 100) (h : tS C W M Pn (.rais c es) D σ H) : tMkO (C.cad c) (spIn (C.cad c) (flds c)) [] (tL C W M es) σ H fun cls d H' => W cls d σ H' := by
  obtain ⟨S, g, F, G, h⟩ := h
  unfold ex at h
  have h2 : outE C W σ S H F ((evO M es g).bind fun ods g1 => match tmps ods with | some ts => if (flds c).length = ts.length ∧ c ≠ 9 then .exc c (T.fzL ts) g1 else .bad | none => .bad) (fun _ _ => False) := by
    cases e : evO M es g with
    | bad => rw [e] at h; exact h
    | exc k fs g1 =>
      rw [e] at h
      exact fun cls d H1 S1 F1 t1 G1 x => h cls d σ H1 S1 F1 t1 G1 PinEq.refl x
    | ok ods g1 =>
      rw [e] at h
      simp only [Rs.bind]
      cases e1 : tmps ods with
      | none => simp only [e1] at h; exact h.elim
      | some ts =>
        simp only [e1] at h ⊢
        split at h
        · rename_i hc
          rw [if_pos hc]
          exact fun cls d H1 S1 F1 t1 G1 x => h cls d σ H1 S1 F1 t1 G1 PinEq.refl x
        · exact h.elim
  refine opnds es S H F g _ G ?_
  cases e : evO M es g with
  | bad => rw [e] at h2; exact h2
  | exc k fs g1 => rw [e] at h2; exact h2
  | ok ods g1 =>
    rw [e] at h2
    simp only [Rs.bind] at h2
    intro vs H1 S1 F1 Fa t1 G1 od na da
    cases e1 : tmps ods with
    | none => simp only [e1] at h2; exact h2.elim
    | some ts =>
      simp only [e1] at h2
      split at h2
      · rename_i hc
        have rl := ods_vals e1 od
        have own := RpL.own ts vs Fa rl
        have lenv : vs.length = (flds c).length := by rw [rl.length, hc.1]
        refine ⟨by omega, fun a hna => ⟨a, vs, by rw [List.append_nil], lenv, upd_same, fun dx H2 ys hd ne h2a h2d ho hfl => ⟨rfl, dx, ys, h2a, h2d, ?_, ?_⟩⟩⟩
        · rw [upd_ne ne] at hd; exact hd
        · have hd' : H1 dx = none := by rw [upd_ne ne] at hd; exact hd
          have kk : Same H1 (upd (del H2 a) dx (.xd ys)) := fun b o e => by
            have b1 := ne_of_none e hna
            have b2 := ne_of_none e hd'
            rw [upd_ne b2, del_ne b1, ho b b1 b2, upd_ne b1]
            exact e
          have G2 := G1.grow da fun b hb => (own b hb).2
          have rf : RpL C (SF S1 Fa) H1 (T.fzL ts) vs [] := RpL.froz (fun a z => .inl z) ts vs Fa (fun b hb => .inr hb) rl
          refine h2 (.ref (C.cad c)) (some dx) (upd (del H2 a) dx (.xd ys)) (SF S1 Fa) F1 ?_ (G2.same kk) ⟨rfl, dx, ys, vs, rfl, upd_same, rf.keep kk, hfl⟩
          have tf : Tr S1 H1 (F1 ++ Fa) (SF S1 Fa) H1 F1 := Tr.froze (fun b hb => List.mem_append_left _ hb) fun b hb => List.mem_append_right _ hb
          exact (t1.trans tf).trans ((Tr.alloc (F1 := []) kk fun b hb => nomatch hb).sub' fun b hb => by rw [List.append_nil]; exact hb)
      · exact h2.elim
end Kv

/-! Kv 16: errors are caught. -/
namespace Kv
open PySem L2
variable {P : Prg} {C C' : RC} {S S' : Addr → Prop} {H H' : Hp} {X : Cx} {W : WX} {M : Fns} {σ τ : St} {n : Nat} {Z : Nm} {Pn : List Nat}
mutual
theorem Rp.toC (hK : C'.K = C.K) : ∀ (t : T) (x : V) (F : List Addr), t.noe = true → Rp C S H t x F → Rp C' S H t x F
  | .non, x, F, _, h => h
  | .bl b, x, F, _, h => h
  | .int i, x, F, _, h => h
  | .str s, x, F, _, h => h
  | .scr ns, x, F, _, ⟨e, a, ex, h⟩ => ⟨e, a, ex, by rw [hK]; exact h⟩
  | .dic ns, x, F, _, h => h
  | .lst o xs, x, F, hn, ⟨a, vs, F', ex, ha, hr, hs⟩ => ⟨a, vs, F', ex, ha, RpL.toC hK xs vs F' hn hr, hs⟩
  | .tup xs, x, F, hn, ⟨a, vs, ex, ha, hr⟩ => ⟨a, vs, ex, ha, RpL.toC hK xs vs F hn hr⟩
  | .exc c fs, x, F, hn, _ => by cases hn
theorem RpL.toC (hK : C'.K = C.K) : ∀ (ts : List T) (vs : List V) (F : List Addr), T.noeL ts = true → RpL C S H ts vs F → RpL C' S H ts vs F
  | [], vs, F, _, h => h
  | t :: ts, vs, F, hn, ⟨v, ws, F1, F2, e, eF, h1, h2⟩ => by
    have hn' : t.noe = true ∧ T.noeL ts = true := by simpa [T.noeL] using hn
    exact ⟨v, ws, F1, F2, e, eF, Rp.toC hK t v F1 hn'.1 h1, RpL.toC hK ts ws F2 hn'.2 h2⟩
end
mutual
theorem Rp.noe (hx : C.ex = none) : ∀ (t : T) (x : V) (F : List Addr), Rp C S H t x F → t.noe = true
  | .non, x, F, h => rfl
  | .bl b, x, F, h => rfl
  | .int i, x, F, h => rfl
  | .str s, x, F, h => rfl
  | .scr ns, x, F, h => rfl
  | .dic ns, x, F, h => rfl
  | .lst o xs, x, F, ⟨a, vs, F', ex, ha, hr, hs⟩ => RpL.noe hx xs vs F' hr
  | .tup xs, x, F, ⟨a, vs, ex, ha, hr⟩ => RpL.noe hx xs vs F hr
  | .exc c fs, x, F, ⟨_, a, d, ys, vs, e, _⟩ => by rw [hx] at e; cases e
theorem RpL.noe (hx : C.ex = none) : ∀ (ts : List T) (vs : List V) (F : List Addr), RpL C S H ts vs F → T.noeL ts = true
  | [], vs, F, _ => rfl
  | t :: ts, vs, F, ⟨v, ws, F1, F2, e, eF, h1, h2⟩ => by
    show (t.noe && T.noeL ts) = true
    rw [Rp.noe hx t v F1 h1, RpL.noe hx ts ws F2 h2] <;> rfl
end
theorem RpG.toC (hK : C'.K = C.K) : ∀ (g : Env) (σ : St) (F : List Addr), noeG g = true → RpG C S H g σ F → RpG C' S H g σ F
  | [], σ, F, _, h => h
  | none :: g, σ, F, hn, ⟨y, τ, e, h⟩ => ⟨y, τ, e, RpG.toC hK g τ F hn h⟩
  | some t :: g, σ, F, hn, ⟨v, ws, F1, F2, e, eF, h1, h2⟩ => by
    have hn' : t.noe = true ∧ noeG g = true := by simpa [noeG] using hn
    exact ⟨v, ws, F1, F2, e, eF, Rp.toC hK t v F1 hn'.1 h1, RpG.toC hK g ws F2 hn'.2 h2⟩
theorem RpG.noe (hx : C.ex = none) : ∀ (g : Env) (σ : St) (F : List Addr), RpG C S H g σ F → noeG g = true
  | [], σ, F, _ => rfl
  | none :: g, σ, F, ⟨y, τ, e, h⟩ => RpG.noe hx g τ F h
  | some t :: g, σ, F, ⟨v, ws, F1, F2, e, eF, h1, h2⟩ => by
    show (t.noe && noeG g) = true
    rw [Rp.noe hx t v F1 h1, RpG.noe hx g ws F2 h2] <;> rfl
theorem Good.toC (hK : C'.K = C.K) {g : Env} {F : List Addr} (hn : noeG g = true) (G : Good C S H g σ F) : Good C' S H g σ F := ⟨RpG.toC hK g σ F hn G.rel, G.nd, G.sdom⟩
theorem Good.hot (hx : C.ex = none) {g : Env} {F : List Addr} (G : Good C S H g σ F) (a : Addr) (c : Nat) (d : Addr) : Good (C.hotAt a c d) S H g σ F := Good.toC (C := C) (C' := C.hotAt a c d) rfl (RpG.noe hx g σ F G.rel) G
theorem Good.clr {g : Env} {F : List Addr} (G : Good C S H g σ F) (v : Nat) : ∃ F', Good C S H (g.set v none) (σ.set v none) F' ∧ ∀ b ∈ F', b ∈ F := by
  by_cases hv : v < g.length
  · obtain ⟨Fr, Fi, _, G1, n1, d1, hm⟩ := G.take hv
    obtain ⟨F2, G2, a2, _⟩ := G1.put (i := v) (by rw [List.length_set]; exact hv) (o := none) (y := none) (Fi := []) rfl List.nodup_nil (fun b hb => nomatch hb)
    rw [List.set_set] at G2
    exact ⟨F2, G2, fun b hb => (a2 b hb).elim (fun z => (hm b).mpr (.inl z)) fun z => nomatch z⟩
  · have e1 : g.set v none = g := List.set_eq_of_length_le (by omega)
    have e2 : σ.set v none = σ := List.set_eq_of_length_le (by rw [G.len]; omega)
    rw [e1, e2]
    exact ⟨F, G, fun b hb => hb⟩
/-- no wish for errors -/
abbrev WF : WX := fun _ _ _ _ => False
/-- what a handler wishes -/
def tH (C : RC) (M : Fns) (Pn : List Nat) (h : Sms) (nm : Bool) : Addr → Value → Option Addr → TS := fun a cls d D σ H => ∃ k dd, cls = .ref (C.cad k) ∧ d = some dd ∧ k < 16 ∧ tSs (C.hotAt a k dd) WF M Pn h D σ H
def stN (v : Option Nat) (σ : St) : St := match v with
  | some v => σ.set v none
  | none => σ
/-- the end of a handler -/
theorem fin_nx {D : Ends} {F F2 : List Addr} {v : Option Nat} {hx : C.ex = none} {a : Addr} {k : Nat} {dd : Addr} {r : Fl} {σ2 : St} (h : outS C W Pn D σ S H F (r.fin v)) (t : Tr S H F S' H' F2) (pe : PinEq Pn σ σ2) (hv : ∀ w, v = some w → w ∉ Pn) :
    outS (C.hotAt a k dd) WF Pn { nx := fun σ' H' => D.nx (stN v σ') H', rt := D.rt, bk := fun σ' H' => D.bk (stN v σ') H', ct := fun σ' H' => D.ct (stN v σ') H' } σ2 S' H' F2 r := by
  have key : ∀ {g3 : Env} {τ3 : St} {H3 : Hp} {S3 : Addr → Prop} {F3 : List Addr}, noeG (clr1 v g3) = true → Good (C.hotAt a k dd) S3 H3 g3 τ3 F3 → PinEq Pn σ2 τ3 → ∃ F4, Good C S3 H3 (clr1 v g3) (stN v τ3) F4 ∧ (∀ b ∈ F4, b ∈ F3) ∧ PinEq Pn σ (stN v τ3) := by
    intro g3 τ3 H3 S3 F3 hn G3 p3
    cases v with
    | none => exact ⟨F3, Good.toC (C := C.hotAt a k dd) (C' := C) rfl hn G3, fun b hb => hb, pe.trans p3⟩
    | some w =>
      obtain ⟨F4, G4, a4⟩ := G3.clr w
      exact ⟨F4, Good.toC (C := C.hotAt a k dd) (C' := C) rfl hn G4, a4, (pe.trans p3).trans fun j hj => List.getElem?_set_ne fun (z : w = j) => hv w rfl (by rw [z]; exact hj)⟩
  cases r with
  | bad => exact h
  | exc _ _ _ => exact h.elim
  | nx g =>
    replace h : outS C W Pn D σ S H F (if noeG (clr1 v g) = true then .nx (clr1 v g) else .bad) := h
    by_cases hn : noeG (clr1 v g) = true
    · rw [if_pos hn] at h
      intro τ3 H3 S3 F3 t3 G3 p3
      obtain ⟨F4, G4, a4, p4⟩ := key hn G3 p3
      exact h _ H3 S3 F4 ((t.trans t3).sub' a4) G4 p4
    · rw [if_neg hn] at h; exact h.elim
  | bk g =>
    replace h : outS C W Pn D σ S H F (if noeG (clr1 v g) = true then .bk (clr1 v g) else .bad) := h
    by_cases hn : noeG (clr1 v g) = true
    · rw [if_pos hn] at h
      intro τ3 H3 S3 F3 t3 G3 p3
      obtain ⟨F4, G4, a4, p4⟩ := key hn G3 p3
      exact h _ H3 S3 F4 ((t.trans t3).sub' a4) G4 p4
    · rw [if_neg hn] at h; exact h.elim
  | ct g =>
    replace h : outS C W Pn D σ S H F (if noeG (clr1 v g) = true then .ct (clr1 v g) else .bad) := h
    by_cases hn : noeG (clr1 v g) = true
    · rw [if_pos hn] at h
      intro τ3 H3 S3 F3 t3 G3 p3
      obtain ⟨F4, G4, a4, p4⟩ := key hn G3 p3
      exact h _ H3 S3 F4 ((t.trans t3).sub' a4) G4 p4
    · rw [if_neg hn] at h; exact h.elim
  | rt u g =>
    replace h : outS C W Pn D σ S H F (if (u.noe && noeG (clr1 v g)) = true then .rt u (clr1 v g) else .bad) := h
    by_cases hn : (u.noe && noeG (clr1 v g)) = true
    · rw [if_pos hn] at h
      obtain ⟨hn1, hn⟩ := Bool.and_eq_true_iff.mp hn
      intro τ3 x H3 S3 F3 F1 t3 G3 p3 rx n1 d1
      obtain ⟨F4, G4, a4, p4⟩ := key hn G3 p3
      exact h _ x H3 S3 F4 F1 ((t.trans t3).sub' fun b hb => (List.mem_append.mp hb).elim (fun z => List.mem_append_left _ (a4 b z)) fun z => List.mem_append_right _ z) G4 p4 (Rp.toC (C := C.hotAt a k dd) (C' := C) rfl u x F1 hn1 rx) n1 fun b hb hf => d1 b hb (a4 b hf)
    · rw [if_neg hn] at h; exact h.elim
theorem exr_hot (hx : C.ex = none) {k : Nat} {fs : List T} {cls : Value} {d : Option Addr} {a : Addr} (x : ExRel C k fs cls d S H) : ∃ dd, cls = .ref (C.cad k) ∧ d = some dd ∧ Rp (C.hotAt a k dd) S H (.exc k fs) (.ref a) [] := by
  obtain ⟨ec, dd, ys, vs, ed, hd, r, fa⟩ := x
  exact ⟨dd, ec, ed, rfl, a, dd, ys, vs, rfl, rfl, hd, RpL.toC (C := C) (C' := C.hotAt a k dd) rfl fs vs [] (RpL.noe hx fs vs [] r) r, fa⟩
theorem ts_tryA {D : Ends} {body hd : Sms} {c v : Nat} (hx : C.ex = none) (F0 : ClsF C.K C.cad) (hc : c < 16) (h : tS C W M Pn (.tryA body c v hd) D σ H) :
    tSs C (wAs C.K (.ref (C.cad c)) v (tH C M Pn hd true) W D) M Pn body D σ H := by
  obtain ⟨S, g, F, G, h⟩ := h
  refine ⟨S, g, F, G, ?_⟩
  unfold ex at h
  cases e : exs M body Pn g with
  | bad => rw [e] at h; exact h
  | nx g1 => rw [e] at h; exact h
  | bk g1 => rw [e] at h; exact h
  | ct g1 => rw [e] at h; exact h
  | rt t g1 => rw [e] at h; exact h
  | exc k fs g1 =>
    rw [e] at h
    simp only at h
    intro cls d τ H1 S1 F1 t1 G1 p1 x
    split at h
    · exact h.elim
    rename_i hk
    have hk : k < 16 := by omega
    have ecls : cls = .ref (C.cad k) := x.1
    subst ecls
    refine ⟨isSub k c, F0.exm k c hk hc, fun hb a ha => ?_, fun hb => ?_⟩
    · rw [if_pos hb] at h
      obtain ⟨dd, _, ed, rx⟩ := exr_hot hx (a := a) x
      refine ⟨k, dd, rfl, ed, hk, ?_⟩
      cases e2 : put1 v (.exc k fs) Pn g1 with
      | none => simp only [e2] at h; exact h.elim
      | some g2 =>
        simp only [e2] at h
        obtain ⟨F2, G2, a2, p2, _⟩ := put1_ok (G1.hot hx a k dd) rx List.nodup_nil (fun b hb => nomatch hb) e2
        have t2 : Tr S H F S1 H1 F2 := t1.sub' fun b hb => (a2 b hb).elim id fun z => nomatch z
        exact ⟨S1, g2, F2, G2, fin_nx (v := some v) (hx := hx) h t2 (p1.trans p2) fun w e => by cases e; exact (put1_of e2).1⟩
    · rw [if_neg (by rw [hb]; exact Bool.false_ne_true)] at h
      exact h _ d τ H1 S1 F1 t1 G1 p1 x
theorem ts_tryM {D : Ends} {body hd : Sms} {c : Nat} (hx : C.ex = none) (F0 : ClsF C.K C.cad) (hc : c < 16) (h : tS C W M Pn (.tryM body [c] hd) D σ H) :
    tSs C (wMany C.K W D [(.ref (C.cad c), tH C M Pn hd true)]) M Pn body D σ H := by
  obtain ⟨S, g, F, G, h⟩ := h
  refine ⟨S, g, F, G, ?_⟩
  unfold ex at h
  cases e : exs M body Pn g with
  | bad => rw [e] at h; exact h
  | nx g1 => rw [e] at h; exact h
  | bk g1 => rw [e] at h; exact h
  | ct g1 => rw [e] at h; exact h
  | rt t g1 => rw [e] at h; exact h
  | exc k fs g1 =>
    rw [e] at h
    simp only at h
    intro cls d τ H1 S1 F1 t1 G1 p1 x
    split at h
    · exact h.elim
    rename_i hk
    have hk : k < 16 := by omega
    have ecls : cls = .ref (C.cad k) := x.1
    subst ecls
    have es : [c].any (isSub k) = isSub k c := by simp
    rw [es] at h
    refine ⟨isSub k c, F0.exm k c hk hc, fun hb a ha => ?_, fun hb => ?_⟩
    · rw [if_pos hb] at h
      obtain ⟨dd, _, ed, rx⟩ := exr_hot hx (a := a) x
      exact ⟨k, dd, rfl, ed, hk, S1, g1, F1, G1.hot hx a k dd, fin_nx (v := none) (hx := hx) h t1 p1 fun w e => by cases e⟩
    · rw [if_neg (by rw [hb]; exact Bool.false_ne_true)] at h
      exact h _ d τ H1 S1 F1 t1 G1 p1 x
end Kv

/-! Kv 17: the check of statements; it is sound. -/
namespace Kv
open PySem L2
def notCmp : Expr → Bool
  | .ListComp _ _ _ _ => false
  | .SetComp _ _ _ _ => false
  | .DictComp _ _ _ _ _ => false
  | _ => true
def notTup : Expr → Bool
  | .Tuple _ _ _ => false
  | _ => true
def Nm.toHot (Z : Nm) : Nm := { Z with hot := true }
def augO : Operator → Option Op
  | .Add => some .add | .Sub => some .sub
  | _ => none
def isComp : E → Bool
  | .comp _ _ _ _ => true
  | _ => false
mutual
def chkS (P : Prg) : Nm → Nat → Stmt → Sm → Bool
  | _, 0, _, _ => false
  | Z, n + 1, st, sm => match sm with
    | .asg i e' => (match st with
      | .Assign [.Name x py] (.ListComp elt [⟨tg, iter, ifs, 0⟩] scope pos) spos => isLoc Z (.Name x py) i && ((decide (Z.sc.names.lookup x = some .local) && decide (Z.sc.kind = .function) && (py.line == pos.line) && !(scope.names.any fun q => q.1 == x && (q.2 == .local || q.2 == .cell))) || decide (Z.sc.names.lookup x = some .cell)) && isComp e' && chkE P Z n (.ListComp elt [⟨tg, iter, ifs, 0⟩] scope pos) e'
      | .Assign [.Name x py] e _ => isLoc Z (.Name x py) i && notCmp e && chkE P Z n e e'
      | _ => false)
    | .par i j es => (match st with
      | .Assign [.Tuple [.Name x px, .Name y py] kt pt] (.Tuple [a, b] k2 pt2) _ => !Z.hot && decide (Z.N[i]? = some x) && decide (Z.N[j]? = some y) && decide (i ≠ j) && decide (Z.sc.names.lookup x = some .local) && decide (Z.sc.names.lookup y = some .local) && decide (Z.sc.kind = .function) && decide (py.line = px.line) && !(x == y) && !([a, b].all (foldedForSure 8)) && !([a, b].all (constantsAlone 8)) && chkA P Z n [a, b] es
      | _ => false)
    | .unp is e' => (match st with
      | .Assign [.Tuple ts u v] e _ => !Z.hot && chkTg Z (.Tuple ts u v) (.many is) && notCmp e && notTup e && chkE P Z n e e'
      | _ => false)
    | .seti v i e' => (match st with
      | .Assign [.Subscript a b _] e _ => isNm Z a v && notSlice b && notCmp e && chkE P Z n b i && chkE P Z n e e'
      | _ => false)
    | .augi v i o e' => (match st with
      | .AugAssign (.Subscript a b _) op e _ => isNm Z a v && notSlice b && decide (augO op = some o) && chkE P Z n b i && chkE P Z n e e'
      | _ => false)
    | .app v e' => (match st with
      | .Expr (.Call (.Attribute a m apos) [e] [] cpos) _ => decide (m = ("append" : Str)) && isNm Z a v && (apos.endLine == cpos.line) && chkE P Z n e e'
      | _ => false)
    | .aug v o e' => (match st with
      | .AugAssign (.Name x px) op e _ => isLoc Z (.Name x px) v && decide (augO op = some o) && chkE P Z n e e'
      | _ => false)
    | .hldL _ s' => (match st with
      | .For _ _ _ _ _ => chkS P Z n st s'
      | _ => false)
    | .ex e' => (match st with
      | .Expr e _ => notCmp e && chkE P Z n e e'
      | _ => false)
    | .ret e' => (match st with
      | .Return (some e) _ => chkE P Z n e e'
      | _ => false)
    | .retN => (match st with
      | .Return none _ => true
      | _ => false)
    | .ite c a b => (match st with
      | .If c' a' b' _ => chkT P Z n c' c && chkSs P Z n a' a && chkSs P Z n b' b
      | _ => false)
    | .loop tg it body => (match st with
      | .For t iter b [] _ => !Z.hot && chkTg Z t tg && ((!itTup it || isTup t) && chkIt P Z n iter it) && chkSs P Z n b body
      | _ => false)
    | .whl c body => (match st with
      | .While c' b [] _ => chkT P Z n c' c && chkSs P Z n b body
      | _ => false)
    | .rais c es => (match st with
      | .Raise (some (.Call (.Name x _) as [] _)) none _ => !Z.hot && glB Z.sc x && noDbg x && decide (P.cls.lookup x = some c) && decide (c ≠ 0) && decide (c ≠ 9) && decide (0 < as.length) && chkA P Z n as es
      | _ => false)
    | .tryA body c v h => (match st with
      | .Try b [.ExceptHandler (some (.Name x _)) (some nm) (b0 :: suite) _] [] [] _ => !Z.hot && glB Z.sc x && noDbg x && decide (P.cls.lookup x = some c) && decide (Z.N[v]? = some nm) && decide (Z.sc.names.lookup nm = some .local) && chkSs P Z n b body && chkSs P Z.toHot n (b0 :: suite) h
      | _ => false)
    | .tryM body [c] h => (match st with
      | .Try b [.ExceptHandler (some (.Name x _)) none (b0 :: suite) _] [] [] _ => !Z.hot && glB Z.sc x && noDbg x && decide (P.cls.lookup x = some c) && chkSs P Z n b body && chkSs P Z.toHot n (b0 :: suite) h
      | _ => false)
    | .brk => (match st with
      | .Break _ => true
      | _ => false)
    | .cnt => (match st with
      | .Continue _ => true
      | _ => false)
    | .pas => (match st with
      | .Pass _ => true
      | .Expr (.Constant (.str _) _ _) _ => true
      | _ => false)
    | _ => false
def chkSs (P : Prg) : Nm → Nat → List Stmt → Sms → Bool
  | _, 0, _, _ => false
  | _, _ + 1, [], .nil => true
  | Z, n + 1, s :: r, .cons s' r' => chkS P Z n s s' && chkSs P Z n r r'
  | _, _, _, _ => false
end
structure CtxS (P : Prg) (C : RC) (M : Fns) (n : Nat) (Z : Nm) (W : WX) (X : Cx) : Prop where
  c : Ctx P C M n Z W X
  pass : PassesOwn (model X.prog X.w) X.A X.env X.xe
  hs : X.stack = X.env :: X.outer
  hf : X.env.frame = some X.env.locals
  mkc : Z.hot = false → ∀ x k, P.cls.lookup x = some k → k ≠ 0 → k ≠ 9 → MkC X.prog X.w X.K X.mg X.base C.cad k
  n2 : 2 ≤ n
variable {P : Prg} {C : RC} {S S' : Addr → Prop} {H H' : Hp} {X : Cx} {W : WX} {M : Fns} {σ τ : St} {n : Nat} {Z : Nm} {Pn : List Nat}
theorem ps_imp {st : Stmt} {t t' : TS} (h : PS X st t) (k : ∀ D σ H, t' D σ H → t D σ H) : PS X st t' := ⟨fun pins s σ H D I q => h.run pins s σ H D I (k D σ H q)⟩
theorem pss_imp {st : List Stmt} {t t' : TS} (h : PSs X st t) (k : ∀ D σ H, t' D σ H → t D σ H) : PSs X st t' := ⟨fun pins s σ H D I q => h.run pins s σ H D I (k D σ H q)⟩
theorem sw_no {e : Expr} (h : notCmp e = true) (t : Option Expr) (l : Nat) (env : PySem.Env) : swapsWith e t l env = pure false := by
  cases e <;> first
    | rfl
    | cases h
theorem ss_no {ts : List Expr} {e : Expr} (h : notTup e = true) (env : PySem.Env) : swappedStores ts e env = pure none := by
  cases e <;> first
    | (cases h; done)
    | skip
  all_goals
    unfold swappedStores
    cases ts with
    | nil => rfl
    | cons a r => cases r with
      | nil => cases a <;> rfl
      | cons b r => cases a <;> rfl
theorem sw_cell {elt : Expr} {gs : List Comprehension} {scope : Scope} {pos py : Pos} {y : Str} {l : Nat} {env : PySem.Env} (hy : env.scope.names.lookup y = some .cell) : swapsWith (.ListComp elt gs scope pos) (some (.Name y py)) l env = pure false := by
  have ky : env.kindOf y = some .cell := hy
  unfold swapsWith
  simp only [ky]
  cases env.blockKind <;> rfl
theorem ss_par {x y : Str} {px py pt pt2 : Pos} {kt k2} {a b : Expr} {env : PySem.Env} (hx : env.scope.names.lookup x = some .local) (hy : env.scope.names.lookup y = some .local) (hk : env.scope.kind = .function) (hl : py.line = px.line) (hne : (x == y) = false) (h1 : [a, b].all (foldedForSure 8) = false) (h2 : [a, b].all (constantsAlone 8) = false) (na : notStar a = true) (nb : notStar b = true) :
    swappedStores [.Tuple [.Name x px, .Name y py] kt pt] (.Tuple [a, b] k2 pt2) env = pure (some [x, y]) := by
  have kx : env.kindOf x = some .local := hx
  have ky : env.kindOf y = some .local := hy
  have hb : env.blockKind = .function := by unfold Env.blockKind; rw [hk]; rfl
  have hs : ([a, b].any fun | .Starred .. => true | _ => false) = false := by
    cases a <;> cases b <;> first | rfl | (cases na; done) | (cases nb; done)
  have hd : [x, y].eraseDups.length = 2 := by
    have : ¬ y = x := fun e => by rw [e] at hne; simp at hne
    simp [List.eraseDups_cons, this]
  unfold swappedStores
  simp only [List.length_cons, List.length_nil, hb, hs, kx, ky, h1, h2, List.head?_cons, Option.map_some, Option.getD_some, List.filterMap_cons, List.filterMap_nil, Expr.pos, hl]
  simp [hd]
  intro hh
  rcases hh with hh | hh
  · cases a <;> first | (cases hh; done) | (cases na; done)
  · cases b <;> first | (cases hh; done) | (cases nb; done)
theorem loc_two (c : Ctx P C M n Z W X) {x : Str} {p : Pos} {i : Nat} (h : isLoc Z (.Name x p) i = true) : X.N[i]? = some x ∧ Loc X.env.scope x ∧ (X.fn x = true ∨ X.env.scope.names.lookup x = some .local) := by
  have h' : decide (Z.N[i]? = some x) = true ∧ locB Z x = true := Bool.and_eq_true_iff.mp h
  obtain ⟨l1, l2⟩ := loc_of c h'.2
  exact ⟨by rw [c.hN]; exact of_decide_eq_true h'.1, l1, l2⟩
/-- a list that is laid by a comprehension on the line of its name -/
theorem sound_lc (c : Ctx P C M n Z W X) {x : Str} {py pos spos : Pos} {elt tg iter : Expr} {ifs : List Expr} {scope : Scope} {i : Nat} {tg' : Tg} {it : Kv.It} {cd el : E} {k : Nat} (hl : isLoc Z (.Name x py) i = true) (h1 : Z.sc.names.lookup x = some .local) (h2 : Z.sc.kind = .function) (h3 : (py.line == pos.line) = true)
    (h4 : (scope.names.any fun q => q.1 == x && (q.2 == .local || q.2 == .cell)) = false) (h : chkE P Z k (.ListComp elt [⟨tg, iter, ifs, 0⟩] scope pos) (.comp tg' it cd el) = true) : PS X (.Assign [.Name x py] (.ListComp elt [⟨tg, iter, ifs, 0⟩] scope pos) spos) (tS C W M Pn (.asg i (.comp tg' it cd el))) := by
  cases k with
  | zero => unfold chkE at h; cases h
  | succ K =>
    unfold chkE at h
    simp only [Bool.and_eq_true, Bool.not_eq_true'] at h
    obtain ⟨_, ⟨⟨⟨⟨h0, h5⟩, h6⟩, h7⟩, h8⟩, h9⟩ := h
    have hcalm := (c.calm h0).1
    obtain ⟨pi, ns⟩ := sound_It (tg := tg) (K := K + 1) (fun k _ => chk_sound P C M n k) (Nat.lt_succ_self K) c h7
    have sub := fun (s : Shared) (H : Hp) (D : Addr) (cl : List (Str × Addr)) (fp : List Addr) => chk_sound P C M n K _ _ _ (c.blk h0 scope s H D cl fp)
    have hb : BlkOk X.N X.env.scope scope (tgOwn tg tg') := blkOk_by (by rw [c.hN, c.sc]; exact h6)
    obtain ⟨l1, l2, l3⟩ := loc_two c hl
    have hy : X.env.scope.names.lookup x = some .local := by rw [c.sc]; exact h1
    have r := ps_setLc (X := X) (i := i) (y := x) (py := py) (elt := elt) (tg := tg) (iter := iter) (ifs := ifs) (scope := scope) (own := tgOwn tg tg') (pos := pos) (spos := spos) (wi := siT C W M it) (g := tgT X.K tg') (tt := tB (tD C W0 M cd)) (te := tD C W0 M el) hcalm c.nd l1 hy
      (sw_true (by rw [c.sc]; exact h2) hy h3 h4) pi hb
      (fun s H D cl fp => pg_tg (c.blk h0 scope s H D cl fp) hcalm h5)
      (fun s H D cl fp => by
        cases ifs with
        | nil =>
          rw [isTrueK_of h9]
          exact pts_imp pts_nil fun σ H Q q => tb_true q
        | cons x r =>
          cases r with
          | nil => exact pts_one ((sub s H D cl fp).2.1 _ _ h9)
          | cons _ _ => cases h9)
      (fun s H D cl fp => (sub s H D cl fp).1 _ _ h8) (set_fold ns X.env)
    refine ps_imp r fun D σ H q => ?_
    have q' := ts_asg q
    rw [tg_slots h5, ← c.hK]
    exact td_comp q'
theorem tr_ctx (c : CtxS P C M n Z W X) (hz : Z.hot = false) {W' : WX} {pn : List (Addr × Obj)} {xe : Value → Shared → Prop} (tk : L2N.Takes (X.tr pn xe) W') (hp : PassesOwn (model X.prog X.w) X.A X.env xe) : CtxS P C M n Z W' (X.tr pn xe) where
  c := { hK := c.c.hK, hN := c.c.hN, nd := c.c.nd, sc := c.c.sc, fn := c.c.fn, tk := tk, un := c.c.un, bi := c.c.bi, cn := c.c.cn, calm := c.c.calm, cl := c.c.cl, cc := c.c.cc, cx := c.c.cx, rm := c.c.rm, ho := (fun z => by rw [hz] at z; cases z), hf := c.c.hf, fns := c.c.fns }
  pass := hp
  hs := c.hs
  hf := c.hf
  mkc := c.mkc
  n2 := c.n2
theorem hot_ctx (c : CtxS P C M n Z W X) (hz : Z.hot = false) {a : Addr} {k : Nat} {dd : Addr} {oe : Obj} {pn : List (Addr × Obj)} (hzn : L2N.Zn (.ref (C.cad k)) (some dd) oe) (hv : ∃ vs, oe.data = .fields vs) (hk : k < 16) : CtxS P (C.hotAt a k dd) M n Z.toHot WF (X.suite a ((a, oe) :: pn)) where
  c := {
    hK := c.c.hK
    hN := c.c.hN
    nd := c.c.nd
    sc := c.c.sc
    fn := c.c.fn
    tk := fun u s' x => by
      obtain ⟨_, _, _, _, _, _, _, _, _, _, _, _, _, _, _, _, z⟩ := x
      exact z.elim
    un := c.c.un
    bi := c.c.bi
    cn := fun x t h => by
      obtain ⟨v, u, h1, h2, h3⟩ := c.c.cn x t h
      exact ⟨v, u, h1, h2, fun S H => Rp.toC (C := C) (C' := C.hotAt a k dd) rfl t v [] (Rp.noe (c.c.cx hz) t v [] (h3 S H)) (h3 S H)⟩
    calm := fun z => by
      have z' : true = false := z
      cases z'
    cl := c.c.cl
    cc := c.c.cc
    cx := fun z => by
      have z' : true = false := z
      cases z'
    rm := ⟨c.c.rm.dp, c.c.rm.un⟩
    ho := fun _ => by
      obtain ⟨vs, hv⟩ := hv
      exact ⟨a, k, dd, oe, rfl, ⟨rfl, vs, hv, hzn.2.2 vs hv⟩, List.mem_cons_self, hzn, hk⟩
    hf := fun j i hj hi => by
      obtain ⟨f, fd, h1, h2, h3, h4⟩ := (c.c.hf j i hj hi).ex
      exact ⟨f, fd, h1, h2, h3, ⟨fun C vs H Q E h => h4.len C vs H Q E h, fun A outer s H args us vs Q E a' c' d' oe' => h4.run A outer s H args us vs Q E a' c' d' oe'⟩⟩
    fns := fun z => by
      have z' : true = false := z
      cases z' }
  pass := PassesOwn.never
  hs := c.hs
  hf := c.hf
  mkc := fun z => by
    have z' : true = false := z
    cases z'
  n2 := c.n2
end Kv

/-! Kv 18: the check of statements is sound. -/
namespace Kv
open PySem L2
variable {P : Prg} {C : RC} {S S' : Addr → Prop} {H H' : Hp} {X : Cx} {W : WX} {M : Fns} {σ τ : St} {n : Nat} {Z : Nm} {Pn : List Nat}
abbrev SoundS (P : Prg) (M : Fns) (n k : Nat) : Prop := ∀ (C : RC) (Z : Nm) (W : WX) (X : Cx) (Pn : List Nat), CtxS P C M n Z W X → (∀ st sm, chkS P Z k st sm = true → PS X st (tS C W M Pn sm)) ∧ ∀ st sm, chkSs P Z k st sm = true → PSs X st (tSs C W M Pn sm)
theorem sws_no {e : Expr} (h : notCmp e = true) (t : Expr) (l : Nat) (env : PySem.Env) : swapsWithSole [t] e l env = pure false := sw_no h (some t) l env
theorem sub_asg {a b : Expr} {p : Pos} (h : notSlice b = true) (env : PySem.Env) : ∀ v, assign (.Subscript a b p) env v = (do
      let ov ← holding [v] (eval a env)
      let iv ← holding [v, ov] (eval b env)
      standAt p
      holding [v, ov, iv] (setItem ov iv v)
      release [v, ov, iv] []) := by
  intro v
  cases b <;> first
    | rfl
    | cases h
theorem augS_plain {b : Expr} (h : notSlice b = true) (ov iv new : Value) : augStore b ov iv new = (do holding [new, ov, iv] (setItem ov iv new); release [new, ov, iv] []; pure .next) := by
  cases b <;> first
    | rfl
    | cases h
theorem names_of (c : Ctx P C M n Z W X) {x : Str} {k : Nat} (hg : glB Z.sc x = true) (hd : noDbg x = true) (hc : P.cls.lookup x = some k) : Names X x (.ref (C.cad k)) := ⟨c.gl hg, (dbg_of hd).1, .inl (c.cc x k hc).1⟩
theorem chkA_star {P : Prg} {Z : Nm} : ∀ {k : Nat} {es : List Expr} {es' : Es}, es ≠ [] → chkA P Z k es es' = true → ∀ e ∈ es, notStar e = true
  | 0, _, _, _, h, _, _ => by cases h
  | k + 1, [], _, hn, _, _, _ => absurd rfl hn
  | k + 1, a :: r, .nil, _, h, _, _ => by cases h
  | k + 1, a :: r, .e a' r', _, h, e, he => by
    have h' : chkE P Z k a a' = true ∧ chkA P Z k r r' = true := by simpa [chkA] using h
    rcases List.mem_cons.mp he with rfl | he
    · exact chkE_star h'.1
    · exact chkA_star (fun z => by rw [z] at he; cases he) h'.2 e he
  | k + 1, a :: r, .v i r', _, h, e, he => by
    have h' : isNm Z a i = true ∧ chkA P Z k r r' = true := by simpa [chkA] using h
    rcases List.mem_cons.mp he with rfl | he
    · exact nm_star h'.1
    · exact chkA_star (fun z => by rw [z] at he; cases he) h'.2 e he
theorem chkS_sound (P : Prg) (M : Fns) (n : Nat) : ∀ k, SoundS P M n k := by
  intro k
  induction k with
  | zero => 
    intro C Z W X Pn c
    refine ⟨fun st sm h => ?_, fun st sm h => ?_⟩
    · unfold chkS at h; cases h
    · unfold chkSs at h; cases h
  | succ K ih =>
    intro C Z W X Pn c
    have E := chk_sound P C M n K Z W X c.c
    obtain ⟨iE, iT, iA, _⟩ := E
    have iS := fun Pn => (ih C Z W X Pn c).2
    refine ⟨fun st sm h => ?_, fun st sm h => ?_⟩
    · unfold chkS at h
      split at h
      · -- asg
        rename_i i e'
        split at h
        · rename_i x py elt tg iter ifs scope pos spos
          simp only [Bool.and_eq_true, Bool.or_eq_true, Bool.not_eq_true', decide_eq_true_eq] at h
          obtain ⟨⟨⟨h1, h2⟩, h6⟩, h7⟩ := h
          rcases h2 with ⟨⟨⟨h2, h3⟩, h4⟩, h5⟩ | h2
          · cases e' <;> first | (cases h6; done) | skip
            exact sound_lc c.c h1 h2 h3 h4 h5 h7
          · obtain ⟨l1, l2, l3⟩ := loc_two c.c h1
            exact ps_imp (ps_set c.c.nd l1 l2 (iE _ _ h7) (sw_cell (by rw [c.c.sc]; exact h2)) l3) fun D σ H q => ts_asg q
        · rename_i x py e pos _
          simp only [Bool.and_eq_true] at h
          obtain ⟨⟨h1, h2⟩, h3⟩ := h
          obtain ⟨l1, l2, l3⟩ := loc_two c.c h1
          exact ps_imp (ps_set c.c.nd l1 l2 (iE _ _ h3) (sw_no h2 _ _ _) l3) fun D σ H q => ts_asg q
        · cases h
      · -- par
        rename_i i j es
        split at h
        · rename_i x px y py kt pt a b k2 pt2 spos
          simp only [Bool.and_eq_true, Bool.not_eq_true', decide_eq_true_eq] at h
          obtain ⟨⟨⟨⟨⟨⟨⟨⟨⟨⟨⟨h0, h1⟩, h2⟩, h3⟩, h4⟩, h5⟩, h6⟩, h7⟩, h8⟩, h9⟩, h10⟩, h11⟩ := h
          have na := chkA_star (by simp) h11
          exact ps_imp (ps_par (c.c.calm h0).1 c.c.nd (by rw [c.c.hN]; exact h1) (by rw [c.c.hN]; exact h2) h3 (by rw [c.c.sc]; exact h4) (by rw [c.c.sc]; exact h5) (iA _ _ h11) (ss_par (by rw [c.c.sc]; exact h4) (by rw [c.c.sc]; exact h5) (by rw [c.c.sc]; exact h6) h7 h8 h9 h10 (na a (by simp)) (na b (by simp)))) fun D σ H q => ts_par q
        · cases h
      · -- unp
        split at h
        · simp only [Bool.and_eq_true, Bool.not_eq_true'] at h
          obtain ⟨⟨⟨⟨h0, h1⟩, h2⟩, h3⟩, h4⟩ := h
          refine ps_imp (ps_asg (iE _ _ h4) (pg_tg c.c (c.c.calm h0).1 h1) (sws_no h2 _ _ _) (ss_no h3 _) rfl) fun D σ H q => ?_
          rw [← c.c.hK]
          exact ts_unp q
        · cases h
      · -- seti
        split at h
        · simp only [Bool.and_eq_true] at h
          obtain ⟨⟨⟨⟨h0, h1⟩, h2⟩, h3⟩, h4⟩ := h
          refine ps_imp (ps_asg (iE _ _ h4) (pg_sub (c.c.nm h0) (iE _ _ h3) set_list (sub_asg h1 _)) (sws_no h2 _ _ _) ?_ rfl) fun D σ H q => ts_seti q
          rename_i e _ _
          unfold swappedStores
          cases e <;> rfl
        · cases h
      · -- augi
        split at h
        · simp only [Bool.and_eq_true, decide_eq_true_eq] at h
          obtain ⟨⟨⟨⟨h0, h1⟩, h2⟩, h3⟩, h4⟩ := h
          rename_i op _ _
          cases op <;> simp only [augO, Option.some.injEq, reduceCtorEq] at h2
          · subst h2
            exact ps_imp (ps_augS (c.c.nm h0) (iE _ _ h3) pget_list (iE _ _ h4) ip_add set_list (augS_plain h1)) fun D σ H q => by rw [← c.c.hK]; exact ts_augi (fun a b => rfl) q
          · subst h2
            exact ps_imp (ps_augS (c.c.nm h0) (iE _ _ h3) pget_list (iE _ _ h4) ip_sub set_list (augS_plain h1)) fun D σ H q => by rw [← c.c.hK]; exact ts_augi (fun a b => rfl) q
        · cases h
      · -- app
        split at h
        · simp only [Bool.and_eq_true, decide_eq_true_eq] at h
          obtain ⟨⟨⟨rfl, h1⟩, h2⟩, h3⟩ := h
          have ns := chkE_star h3
          refine ps_imp (ps_expr (pe_bm PySem.F.plainAttrs_list PySem.F.slot_list_append PySem.F.type_list_append mt_append (c.c.nm h1) (pa_cons (iE _ _ h3) pa_nil (star_of ns _ _)) (nm_base h1 _ _) (few_ok ns _ _) h2 (star_of ns _ _) rfl) rfl) fun D σ H q => ?_
          rw [← c.c.hK]
          exact ts_app q
        · cases h
      · -- aug
        split at h
        · simp only [Bool.and_eq_true, decide_eq_true_eq] at h
          obtain ⟨⟨h1, h2⟩, h3⟩ := h
          obtain ⟨l1, l2, l3⟩ := loc_two c.c h1
          rename_i op _ _
          cases op <;> simp only [augO, Option.some.injEq, reduceCtorEq] at h2
          · subst h2
            exact ps_imp (ps_aug c.c.nd l1 l2 (iE _ _ h3) ip_add l3) fun D σ H q => ts_aug (fun a b => rfl) q
          · subst h2
            exact ps_imp (ps_aug c.c.nd l1 l2 (iE _ _ h3) ip_sub l3) fun D σ H q => ts_aug (fun a b => rfl) q
        · cases h
      · -- hldL
        split at h
        · exact ps_imp ((ih C Z W X _ c).1 _ _ h) fun D σ H q => ts_hldL q
        · cases h
      · -- ex
        split at h
        · simp only [Bool.and_eq_true] at h
          exact ps_imp (ps_expr (iE _ _ h.2) (sw_no h.1 _ _ _)) fun D σ H q => ts_ex q
        · cases h
      · -- ret
        split at h
        · exact ps_imp (ps_ret (iE _ _ h)) fun D σ H q => ts_ret q
        · cases h
      · split at h
        · exact ps_imp ps_retN fun D σ H q => ts_retN q
        · cases h
      · -- ite
        split at h
        · simp only [Bool.and_eq_true] at h
          exact ps_imp (ps_if (iT _ _ h.1.1) (iS Pn _ _ h.1.2) (iS Pn _ _ h.2)) fun D σ H q => ts_ite q
        · cases h
      · -- loop
        split at h
        · simp only [Bool.and_eq_true, Bool.not_eq_true'] at h
          obtain ⟨⟨⟨h0, h1⟩, h2⟩, h3⟩ := h
          rename_i tgx iter b pos
          obtain ⟨pi, ns⟩ := sound_It (tg := tgx) (K := K + 1) (fun k _ => chk_sound P C M n k) (Nat.lt_succ_self K) c.c h2
          refine ⟨fun pins s σ H D I q => ?_⟩
          obtain ⟨Pm, q⟩ := ts_loop q
          rw [c.c.hK] at q
          exact (ps_for c.pass (c.c.calm h0).1 pi (pg_tg c.c (c.c.calm h0).1 h1) (iS Pm _ _ h3) (set_fold ns X.env)).run pins s σ H D I q
        · cases h
      · -- whl
        split at h
        · simp only [Bool.and_eq_true] at h
          exact ps_imp (ps_while c.pass (iT _ _ h.1) (iS Pn _ _ h.2)) fun D σ H q => ts_whl q
        · cases h
      · -- rais
        rename_i cc es
        split at h
        · rename_i x p as pos pos2
          simp only [Bool.and_eq_true, Bool.not_eq_true', decide_eq_true_eq] at h
          obtain ⟨⟨⟨⟨⟨⟨⟨h0, h1⟩, h2⟩, h3⟩, h4⟩, h5⟩, h6⟩, h7⟩ := h
          cases as with
          | nil => cases h6
          | cons a r =>
            have mk := c.mkc h0 x cc h3 h4 h5
            obtain ⟨fI, fd, i1, i2, i3, i4⟩ := mk.ini
            obtain ⟨hm, hlt⟩ := c.c.cc x cc h3
            obtain ⟨_, es', k', _, _, ha2, _, ns, _⟩ := opd_cons (K := K + 1) (fun k _ => chk_sound P C M n k) (Nat.lt_succ_self K) c.c h7
            have hr : Room (1 + 1) X.A := (c.c.calm h0).2.mono c.n2
            refine ps_imp (L2N.ps_raise (c.c.calm h0).1 c.c.tk (pmk_oexN mk.T i1 i2 i4 hr i3 (fun pins σ H s e s' I q => ?_) (c.c.gl h1) hm (iA _ _ h7) (dbg_of h2).1 (star_of ns _ _) (chkA_any k' r es' _ _ ha2))) fun D σ H q => ts_rais (flds_len cc) q
            obtain ⟨_, _, _, _, _, _, _, _, _, _, _, _, z⟩ := q
            exact z.elim
        · cases h
      · -- tryA
        rename_i body cc v hd
        split at h
        · rename_i b x np nm b0 suite pos' pos
          simp only [Bool.and_eq_true, Bool.not_eq_true', decide_eq_true_eq] at h
          obtain ⟨⟨⟨⟨⟨⟨⟨h0, h1⟩, h2⟩, h3⟩, h4⟩, h5⟩, h6⟩, h7⟩ := h
          have hx := c.c.cx h0
          obtain ⟨hm, hlt⟩ := c.c.cc x cc h3
          refine ps_imp (L2N.ps_try_as (i := v) (tb := fun W => tSs C W M Pn body) (ts := tH C M Pn hd true) (Wout := W) c.hs c.hf c.c.nd (by rw [c.c.hN]; exact h4) (by show X.env.scope.names.lookup nm = some .local; rw [c.c.sc]; exact h5) (names_of c.c h1 h2 h3) c.c.tk
            (fun W' pn xe tk hp => (ih C Z W' _ Pn (tr_ctx c h0 tk hp)).2 _ _ h6) (fun a oe cls d pn hz hv => ⟨fun pins s σ H D I q => ?_⟩)) fun D σ H q => by
              rw [← c.c.hK]
              exact ts_tryA hx c.c.cl hlt q
          obtain ⟨k, dd, rfl, rfl, hk, q⟩ := q
          exact ((ih (C.hotAt a k dd) Z.toHot WF _ Pn (hot_ctx c h0 hz hv hk)).2 _ _ h7).run pins s σ H D I q
        · cases h
      · -- tryM
        rename_i body cc hd
        split at h
        · rename_i b x np b0 suite pos' pos
          simp only [Bool.and_eq_true, Bool.not_eq_true', decide_eq_true_eq] at h
          obtain ⟨⟨⟨⟨⟨h0, h1⟩, h2⟩, h3⟩, h6⟩, h7⟩ := h
          have hx := c.c.cx h0
          obtain ⟨hm, hlt⟩ := c.c.cc x cc h3
          refine ps_imp (L2N.ps_try_many (tb := fun W => tSs C W M Pn body) (l := [(.ref (C.cad cc), tH C M Pn hd true)]) (Wout := W) c.hs c.hf c.c.tk
            (fun W' pn xe tk hp => (ih C Z W' _ Pn (tr_ctx c h0 tk hp)).2 _ _ h6) (.cons (names_of c.c h1 h2 h3) (fun a oe cls d pn hz hv => ⟨fun pins s σ H D I q => ?_⟩) .nil)) fun D σ H q => by
              rw [← c.c.hK]
              exact ts_tryM hx c.c.cl hlt q
          obtain ⟨k, dd, rfl, rfl, hk, q⟩ := q
          exact ((ih (C.hotAt a k dd) Z.toHot WF _ Pn (hot_ctx c h0 hz hv hk)).2 _ _ h7).run pins s σ H D I q
        · cases h
      · split at h
        · exact ps_imp ps_break fun D σ H q => ts_brk q
        · cases h
      · split at h
        · exact ps_imp ps_continue fun D σ H q => ts_cnt q
        · cases h
      · split at h
        · exact ps_imp ps_pass fun D σ H q => ts_pas q
        · exact ps_imp ps_doc fun D σ H q => ts_pas q
        · cases h
      · cases h
    · cases st with
      | nil => cases sm with
        | nil => exact pss_imp pss_nil fun D σ H q => ts_nil q
        | cons _ _ => unfold chkSs at h; cases h
      | cons s r => cases sm with
        | nil => unfold chkSs at h; cases h
        | cons s' r' =>
          have h' : chkS P Z K s s' = true ∧ chkSs P Z K r r' = true := by simpa [chkSs] using h
          exact pss_imp (pss_cons ((ih C Z W X Pn c).1 _ _ h'.1) (iS Pn _ _ h'.2)) fun D σ H q => ts_cons q
where
  flds_len (c : Nat) : (flds c).length ≤ 100 := by
    unfold flds
    split <;> decide
end Kv

/-! Kv 19: every def keeps its promise. -/
namespace Kv
open PySem L2 PySem.Spec PyProof.Rows
theorem rpg_nones {C : RC} {S : Addr → Prop} {H : Hp} : ∀ k, RpG C S H (List.replicate k none) (List.replicate k none) []
  | 0 => ⟨rfl, rfl⟩
  | k + 1 => ⟨none, List.replicate k none, rfl, rpg_nones k⟩
theorem rpg_start {C : RC} {S : Addr → Prop} {H : Hp} {k : Nat} : ∀ (ts : List T) (vs : List V) (F : List Addr), RpL C S H ts vs F → RpG C S H (ts.map some ++ List.replicate k none) (vs.map some ++ List.replicate k none) F
  | [], vs, F, ⟨e, eF⟩ => by
    subst e eF
    exact rpg_nones k
  | t :: ts, vs, F, ⟨v, ws, F1, F2, e, eF, r1, r2⟩ => by
    subst e
    exact ⟨v, _, F1, F2, rfl, eF, r1, rpg_start ts ws F2 r2⟩
theorem rpg_mask {C : RC} {S : Addr → Prop} {H : Hp} : ∀ (io : List Bool) (g : Env) (τ : L2.St) (vs : List V) (F : List Addr), RpG C S H g τ F → vs.length = io.length → (∀ j : Nat, io[j]? = some true → τ[j]? = (vs[j]?).map some) →
    ∃ F2, RpG C S H (mask io g) (vs.map some) F2 ∧ F2.Sublist F
  | [], g, τ, vs, F, r, h1, h3 => by
    cases vs with
    | nil => exact ⟨[], ⟨rfl, rfl⟩, List.nil_sublist _⟩
    | cons _ _ => cases h1
  | b :: bs, [], τ, vs, F, r, h1, h3 => by
    cases vs with
    | nil => cases h1
    | cons v vs =>
      obtain ⟨F2, q1, q2⟩ := rpg_mask bs [] [] vs [] ⟨rfl, rfl⟩ (by simpa using h1) fun j e => by
        have := h3 (j + 1) e
        rw [r.1] at this
        exact this
      exact ⟨F2, ⟨some v, _, rfl, q1⟩, q2.trans (List.nil_sublist _)⟩
  | b :: bs, none :: g, τ, vs, F, ⟨y, τ', e, r⟩, h1, h3 => by
    subst e
    cases vs with
    | nil => cases h1
    | cons v vs =>
      obtain ⟨F2, q1, q2⟩ := rpg_mask bs g τ' vs F r (by simpa using h1) fun j e => h3 (j + 1) e
      cases b with
      | true => exact ⟨F2, ⟨some v, _, rfl, q1⟩, q2⟩
      | false => exact ⟨F2, ⟨some v, _, rfl, q1⟩, q2⟩
  | b :: bs, some t :: g, τ, vs, F, ⟨x, τ', F1, F2, e, eF, r1, r⟩, h1, h3 => by
    subst e eF
    cases vs with
    | nil => cases h1
    | cons v vs =>
      obtain ⟨F3, q1, q2⟩ := rpg_mask bs g τ' vs F2 r (by simpa using h1) fun j e => h3 (j + 1) e
      cases b with
      | true =>
        have ev : some (some x) = some (some v) := h3 0 rfl
        cases ev
        exact ⟨F1 ++ F3, ⟨x, _, F1, F3, rfl, rfl, r1, q1⟩, List.Sublist.append (List.Sublist.refl _) q2⟩
      | false => exact ⟨F3, ⟨some v, _, rfl, q1⟩, q2.trans (List.sublist_append_right _ _)⟩
theorem mem_pins : ∀ (io : List Bool) (k j : Nat), io[j]? = some true → k + j ∈ pinsOf k io
  | [], k, j, h => by cases h
  | b :: bs, k, 0, h => by
    cases h
    exact List.mem_cons_self
  | b :: bs, k, j + 1, h => by
    have q := mem_pins bs (k + 1) j h
    rw [show k + (j + 1) = k + 1 + j by omega]
    unfold pinsOf
    split
    · exact List.mem_cons_of_mem _ q
    · exact q
/-- from the promise to the body's reading -/
theorem body_of {C : RC} {M : Fns} {d : Def} {N : List Str} {vs : List V} {H : Hp} {Q : VK} {E : XK} {m : List T → Fr} (hm : ∀ ts, m ts = runDef M d ts) (hn : d.n = N.length) (hio : d.io.length ≤ d.n) (h : spF C d.io m vs H Q E) :
    tSs C (fun cls d _ H => E cls d H) M (pinsOf 0 d.io) d.body { nx := fun _ H' => Q .non H', rt := Q } (L2.start N vs) H := by
  obtain ⟨S, ts, F, r, fz, nd, sd, h⟩ := h
  have hl : ts.length = d.io.length := fz.len
  have hv : vs.length = d.io.length := by rw [r.length, hl]
  refine ⟨S, ts.map some ++ List.replicate (d.n - ts.length) none, F, ⟨?_, nd, sd⟩, ?_⟩
  · unfold L2.start
    rw [← hn, r.length]
    exact rpg_start ts vs F r
  · rw [hm ts] at h
    unfold runDef at h
    rw [if_pos hl] at h
    have key : ∀ {g : Env} {τ : L2.St} {H' : Hp} {S' : Addr → Prop} {F' : List Addr}, Good C S' H' g τ F' → PinEq (pinsOf 0 d.io) (L2.start N vs) τ → ∃ F2, RpG C S' H' (mask d.io g) (vs.map some) F2 ∧ F2.Sublist F' := by
      intro g τ H' S' F' G pe
      refine rpg_mask d.io g τ vs F' G.rel hv fun j hj => ?_
      have := pe j (by have := mem_pins d.io 0 j hj; rwa [Nat.zero_add] at this)
      rw [this]
      have hj' : j < vs.length := by rw [hv]; exact (List.getElem?_eq_some_iff.mp hj).1
      unfold L2.start
      rw [List.getElem?_append_left (by rw [List.length_map]; exact hj'), List.getElem?_map]
    cases e : exs M d.body (pinsOf 0 d.io) (ts.map some ++ List.replicate (d.n - ts.length) none) with
    | bad => rw [e] at h; exact h.elim
    | bk g => rw [e] at h; exact h.elim
    | ct g => rw [e] at h; exact h.elim
    | nx g =>
      rw [e] at h
      intro τ H' S' F' t G pe
      obtain ⟨F2, r2, s2⟩ := key G pe
      exact h .non H' S' F2 [] (t.sub' fun b hb => by rw [List.append_nil] at hb; exact s2.subset hb) G.sdom r2 (G.nd.sublist s2) ⟨rfl, rfl⟩ List.nodup_nil fun b hb => nomatch hb
    | rt t g =>
      rw [e] at h
      intro τ x H' S' F' F1 t G pe rx n1 d1
      obtain ⟨F2, r2, s2⟩ := key G pe
      exact h x H' S' F2 F1 (t.sub' fun b hb => (List.mem_append.mp hb).elim (fun z => List.mem_append_left _ (s2.subset z)) fun z => List.mem_append_right _ z) G.sdom r2 (G.nd.sublist s2) rx n1 fun b hb hf => d1 b hb (s2.subset hf)
    | exc c fs g =>
      rw [e] at h
      intro cls dd τ H' S' F' t G pe x
      obtain ⟨F2, r2, s2⟩ := key G pe
      exact h cls dd H' S' F2 (t.sub' fun b hb => s2.subset hb) G.sdom r2 (G.nd.sublist s2) x
/-- a def's function object, whatever its defaults -/
structure FunV (K : PySem.W.Frag) (x qual : Str) (st : Stmt) (f : Addr) (fd : FuncData) : Prop where
  ex : ∃ (oc : Value) (od : Option Addr) (dV kV doc pm : Value) (an : Option Addr) (cdv ct : Value) (osl : Array (Option Value)),
    fd = PySem.W.fnOf x qual (defArgs st) (defBody st) (defScope st) dV kV doc pm an cdv ct ∧ K.lookup f = some ⟨oc, od, .func fd, osl⟩ ∧ PySem.W.codeIn K cdv qual = true
  kp : PySem.W.keepIn K (.ref f) = true
/-- what the written part says of the text's defs -/
structure DefC (P : Program) (w : World) (K : PySem.W.Frag) (mg : Str → Option Value) (base : Heap) (Pg : Prg) (i : FInfo) (d : Def) (hot ho : Bool) : Prop where
  ex : ∃ (f : Addr) (fd : FuncData) (st : Stmt) (qual : Str) (N : List Str) (fuel : Nat), mg i.name = some (.ref f) ∧ (i.pos = true → Binds K fd i.ps []) ∧ (∀ q ∈ i.kd, KdOk K fd i.ps q) ∧ FunV K qual qual st f fd ∧ FnScope N i.ps (defScope st) ∧
    d.n = N.length ∧ d.io = i.io ∧ i.io.length = i.ps.length ∧ i.ps.length ≤ N.length ∧ (ho = false → chkSs Pg ⟨N, defScope st, false, fun _ => true⟩ fuel (defBody st) d.body = true) ∧ (hot = true → chkSs Pg ⟨N, defScope st, true, fun _ => true⟩ fuel (defBody st) d.body = true)
structure TxtC (P : Program) (w : World) (K : PySem.W.Frag) (mg : Str → Option Value) (base : Heap) (C : RC) (Pg : Prg) (ds : List Def) : Prop where
  hK : C.K = K
  cx : C.ex = none
  bi : ∀ b ∈ Pg.bi, mg b = none
  cn : ∀ x t, Pg.cn.lookup x = some t → ∃ v u, mg x = some u ∧ RelV v u ∧ ∀ S H, Rp C S H t v []
  cl : ClsF C.K C.cad
  cc : ∀ x c, Pg.cls.lookup x = some c → mg x = some (.ref (C.cad c)) ∧ c < 16
  mkc : ∀ x k, Pg.cls.lookup x = some k → k ≠ 0 → k ≠ 9 → MkC P w K mg base C.cad k
  len : ∀ (k : Nat) i, Pg.fns[k]? = some i → ∃ d, ds[k]? = some d
  df : ∀ (k : Nat) i d, Pg.fns[k]? = some i → ds[k]? = some d → d.prim = none → DefC P w K mg base Pg i d (decide (k ∈ Pg.hots)) (decide (k ∈ Pg.ho))
  pr : ∀ (k : Nat) i d m, Pg.fns[k]? = some i → ds[k]? = some d → d.prim = some m → k ∉ Pg.hots ∧ ∀ j, FnAt P w K mg base C (j + 2) i (m j)
variable {P : Program} {w : World} {K : PySem.W.Frag} {mg : Str → Option Value} {base : Heap} {C : RC} {Pg : Prg} {ds : List Def}
theorem spF_bad {io : List Bool} {m : List T → Fr} (hm : ∀ ts, m ts = .bad) {vs : List V} {H : Hp} {Q : VK} {E : XK} (h : spF C io m vs H Q E) : False := by
  obtain ⟨S, ts, F, r, fz, nd, sd, h⟩ := h
  rw [hm ts] at h
  exact h
theorem fnOk_bad {n : Nat} {f : Addr} {fd : FuncData} {ps : List Str} {io : List Bool} {m : List T → Fr} (hm : ∀ ts, m ts = .bad) : FnOk P w K mg base (L2N.CX P w) n f fd ps (spF C io m) :=
  ⟨fun vs H Q E h => (spF_bad hm h).elim, fun A outer s H args us vs Q E _ _ _ _ h => (spF_bad hm h).elim⟩
theorem fnHC_bad {n : Nat} {f : Addr} {fd : FuncData} {ps : List Str} {io : List Bool} {m : List T → Fr} (hm : ∀ ts, m ts = .bad) : FnHC P w K mg base (L2N.CX P w) C n f fd ps (fun C => spF C io m) :=
  ⟨fun C vs H Q E h => (spF_bad hm h).elim, fun A outer s H args us vs Q E a c d oe _ _ _ _ _ _ _ _ h => (spF_bad hm h).elim⟩
theorem fns_ok (Tx : TxtC P w K mg base C Pg ds) : ∀ j, (∀ (k : Nat) i, k ∉ Pg.ho → Pg.fns[k]? = some i → FnAt P w K mg base C (j + 2) i (Mn ds j k)) ∧ ∀ (k : Nat) i, k ∈ Pg.hots → Pg.fns[k]? = some i → FnHAt P w K mg base C (j + 2) i (Mn ds j k) := by
  intro j
  induction j with
  | zero =>
    have bad : ∀ (k : Nat) (ts : List T), Mn ds 0 k ts = .bad := fun k ts => rfl
    refine ⟨fun k i hho hi => ?_, fun k i hh hi => ?_⟩
    · obtain ⟨d, hd⟩ := Tx.len k i hi
      cases hp : d.prim with
      | none =>
        obtain ⟨f, fd, st, qual, N, fuel, h1, h2, h3, F, _⟩ := (Tx.df k i d hi hd hp).ex
        obtain ⟨oc, od, dV, kV, doc, pm, an, cdv, ct, osl, rfl, lk, hcd⟩ := F.ex
        exact ⟨f, _, h1, F.kp, h2, fnOk_bad (bad k), h3, oc, od, osl, lk⟩
      | some m =>
        obtain ⟨f, fd, h1, h2, h3, _, h5⟩ := ((Tx.pr k i d m hi hd hp).2 0).ex
        exact ⟨f, fd, h1, h2, h3, fnOk_bad (bad k), h5⟩
    · obtain ⟨d, hd⟩ := Tx.len k i hi
      cases hp : d.prim with
      | none =>
        obtain ⟨f, fd, st, qual, N, fuel, h1, h2, h3, F, _⟩ := (Tx.df k i d hi hd hp).ex
        exact ⟨f, fd, h1, F.kp, h2, fnHC_bad (bad k)⟩
      | some m => exact absurd hh (Tx.pr k i d m hi hd hp).1
  | succ j ih =>
    refine ⟨fun k i hho hi => ?_, fun k i hh hi => ?_⟩
    · obtain ⟨d, hd⟩ := Tx.len k i hi
      cases hp : d.prim with
      | some m =>
        have e : Mn ds (j + 1) k = m (j + 1) := by
          funext ts
          show (match ds[k]? with | some d => (match d.prim with | some m => m (j + 1) ts | none => runDef (Mn ds j) d ts) | none => .bad) = _
          rw [hd]
          simp only [hp]
        rw [e]
        exact (Tx.pr k i d m hi hd hp).2 (j + 1)
      | none =>
        have e : ∀ ts, Mn ds (j + 1) k ts = runDef (Mn ds j) d ts := by
          intro ts
          show (match ds[k]? with | some d => (match d.prim with | some m => m (j + 1) ts | none => runDef (Mn ds j) d ts) | none => .bad) = _
          rw [hd]
          simp only [hp]
        obtain ⟨f, fd, st, qual, N, fuel, h1, h2, h3, F, S, h5, h6, h7, h8, h9, _⟩ := (Tx.df k i d hi hd hp).ex
        obtain ⟨oc, od, dV, kV, doc, pm, an, cdv, ct, osl, rfl, lk, hcd⟩ := F.ex
        refine ⟨f, _, h1, F.kp, h2, ?_, h3, oc, od, osl, lk⟩
        refine fn_of lk hcd S (fun vs H Q E h => by rw [spF_len h, h7]) fun A outer s H vs Q E hr hsp => ?_
        rw [← h6] at hsp
        refine ⟨_, ?_, body_of e h5 (by rw [h5, h6, h7]; exact h8) hsp⟩
        refine (chkS_sound Pg (Mn ds j) (j + 2) fuel C ⟨N, defScope st, false, fun _ => true⟩ (fun cls d _ H => E cls d H) _ _ ⟨⟨Tx.hK, rfl, S.nd, rfl, rfl, L2N.takes_of rfl rfl rfl rfl, hr.units, Tx.bi, Tx.cn, fun _ => ⟨rfl, hr⟩, Tx.cl, Tx.cc, fun _ => Tx.cx, L2H.roomH_of hr, (fun z => by cases z), fun k i hk hi => ih.2 k i hk hi, fun _ k i hho hi => ih.1 k i hho hi⟩, passes_of rfl, rfl, rfl, fun _ x k h a b => Tx.mkc x k h a b, by omega⟩).2 _ _ (h9 (decide_eq_false hho))
    · obtain ⟨d, hd⟩ := Tx.len k i hi
      cases hp : d.prim with
      | some m => exact absurd hh (Tx.pr k i d m hi hd hp).1
      | none =>
        have e : ∀ ts, Mn ds (j + 1) k ts = runDef (Mn ds j) d ts := by
          intro ts
          show (match ds[k]? with | some d => (match d.prim with | some m => m (j + 1) ts | none => runDef (Mn ds j) d ts) | none => .bad) = _
          rw [hd]
          simp only [hp]
        obtain ⟨f, fd, st, qual, N, fuel, h1, h2, h3, F, S, h5, h6, h7, h8, _, h9⟩ := (Tx.df k i d hi hd hp).ex
        have h9 := h9 (decide_eq_true hh)
        refine ⟨f, fd, h1, F.kp, h2, ?_⟩
        obtain ⟨oc, od, dV, kV, doc, pm, an, cdv, ct, osl, rfl, lk, hcd⟩ := F.ex
        refine fn_ofHC lk hcd S (fun C vs H Q E h => by rw [spF_len h, h7]) fun A outer s H vs Q E a c dd oe hot hzn hc hr hsp => ?_
        rw [← h6] at hsp
        refine ⟨_, ?_, body_of e h5 (by rw [h5, h6, h7]; exact h8) hsp⟩
        refine (chkS_sound Pg (Mn ds j) (j + 2) fuel (C.hotAt a c dd) ⟨N, defScope st, true, fun _ => true⟩ (fun cls d _ H => E cls d H) (L2H.cxH (L2N.CX P w) P w K mg base N qual (defScope st) f cdv A outer s H E (a, oe)) _ ⟨⟨(show (C.hotAt a c dd).K = K from Tx.hK), rfl, S.nd, rfl, rfl, L2N.takes_of rfl rfl rfl rfl, ?_, Tx.bi, ?_, (fun z => by cases z), Tx.cl, Tx.cc, (fun z => by cases z), hr, (fun _ => ⟨a, c, dd, oe, rfl, hot, List.mem_cons_self, hzn, hc⟩), ?_, (fun z => by cases z)⟩, passes_of rfl, rfl, rfl, (fun z => by cases z), by omega⟩).2 _ _ h9
        · have := hr.un
          show (A.deeper _).units + 64 < cLine
          omega
        · intro x t h
          obtain ⟨v, u, q1, q2, q3⟩ := Tx.cn x t h
          exact ⟨v, u, q1, q2, fun S H => Rp.toC (C := C) (C' := C.hotAt a c dd) rfl t v [] (Rp.noe Tx.cx t v [] (q3 S H)) (q3 S H)⟩
        · intro k' i' hk hi'
          obtain ⟨f', fd', q1, q2, q3, q4⟩ := (ih.2 k' i' hk hi').ex
          exact ⟨f', fd', q1, q2, q3, ⟨fun C vs H Q E h => q4.len C vs H Q E h, fun A outer s H args us vs Q E a' c' d' oe' => q4.run A outer s H args us vs Q E a' c' d' oe'⟩⟩
end Kv

/-! Kv 20: a tree is spoilt in place. -/
namespace Kv
open PySem L2 PySem.Spec PyProof.Rows
mutual
def T.depth : T → Nat
  | .lst _ xs => T.depthL xs + 1
  | .tup xs => T.depthL xs + 1
  | .non => 0
  | .bl _ => 0
  | .int _ => 0
  | .str _ => 0
  | .scr _ => 0
  | .dic _ => 0
  | .exc _ _ => 0
def T.depthL : List T → Nat
  | [] => 0
  | t :: ts => max (T.depth t) (T.depthL ts)
end
mutual
/-- lists short enough to be added to -/
def T.short : T → Bool
  | .lst _ xs => decide (xs.length < sizeLine) && T.shortL xs
  | .tup xs => T.shortL xs
  | .non => true
  | .bl _ => true
  | .int _ => true
  | .str _ => true
  | .scr _ => true
  | .dic _ => true
  | .exc _ _ => true
def T.shortL : List T → Bool
  | [] => true
  | t :: ts => T.short t && T.shortL ts
end
mutual
/-- every list in it is added to -/
def T.sp (w : Str) : T → T
  | .lst o xs => .lst o (T.spL w xs ++ [.str w])
  | .tup xs => .tup (T.spL w xs)
  | .non => .non
  | .bl b => .bl b
  | .int i => .int i
  | .str s => .str s
  | .scr ns => .scr ns
  | .dic k => .dic k
  | .exc c fs => .exc c fs
def T.spL (w : Str) : List T → List T
  | [] => []
  | t :: ts => T.sp w t :: T.spL w ts
end
/-- a tree of one's own is spoilt -/
def spoilM (w : Str) (n : Nat) : List T → Fr
  | [t] => if t.deep && t.short && decide (T.depth t < n) then .ok .non [some (t.sp w)] else .bad
  | _ => .bad
end Kv

/-! Kv 21: what the written part must say, by looks; the law's end. -/
namespace Kv
open PySem L2 PySem.Spec PyProof.Rows
def oexB (K : PySem.W.Frag) (C : Addr) : Bool := match K.lookup C with
  | some ⟨.type "type", _, .cls cd, sl⟩ => (match cd.mro, sl.toList with
    | .ref C' :: bm, [_, _, _, _, some (.builtin n), _] => C' == C && n == "ValueError.__new__" && !cd.hasDel && cd.hasDict && PySem.HandSPX.refsVE bm
    | _, _ => false)
  | _ => false
theorem oexB_ok {K : PySem.W.Frag} {C : Addr} (q : oexB K C = true) : ∃ nm q N bs bm sn sub ab col dd k0 k1 k2 k3 k5, K.lookup C = some (excClassObj nm q C N bs bm true sn sub ab col dd k0 k1 k2 k3 k5 "ValueError.__new__") ∧ PySem.HandSPX.refsVE bm = true := by
  unfold oexB at q
  split at q
  · rename_i dd cd sl ho
    split at q
    · rename_i C' bm k0 k1 k2 k3 n k5 hm hs
      simp only [Bool.and_eq_true, beq_iff_eq, Bool.not_eq_true'] at q
      obtain ⟨⟨⟨⟨rfl, rfl⟩, hdel⟩, hd⟩, ht⟩ := q
      obtain ⟨nm, bs, mro, ns, qn, hdc, sn, sub, ab, col, del⟩ := cd
      dsimp only at hm hdel hd
      subst hm hdel hd
      have hsl : sl = #[k0, k1, k2, k3, some (.builtin "ValueError.__new__"), k5] := by
        obtain ⟨l⟩ := sl
        simp only at hs
        rw [hs]
      subst hsl
      exact ⟨nm, qn, ns, bs, bm, sn, sub, ab, col, dd, k0, k1, k2, k3, k5, ho, ht⟩
    · cases q
  · cases q
/-- one class -/
def cl1B (K : PySem.W.Frag) (C : Addr) (c : Nat) : Bool :=
  decide (PySem.W.findIn K (.ref C) "__getattribute__" = some (some (.builtin "BaseException.__getattribute__"))) && (decide (PySem.W.findIn K (.ref C) "__getattr__" = some none) && (decide (PySem.W.subIn K (.ref C) (.type "BaseException") = some true) && (PySem.W.hasDictIn K C &&
  (decide (PySem.W.findIn K (.ref C) "__class__" = some (some (.builtin "object.__class__"))) && (decide (PySem.W.mroIn K C (.type "object") = some true) && ((flds c).all (fun f => decide (PySem.W.findIn K (.ref C) f = some none)) && (decide (PySem.W.kitOne K (.ref C) (.type "ValueError") = some true) &&
  (decide (PySem.W.findIn K (.ref C) "__setattr__" = some (some (.builtin "object.__setattr__"))) && (decide (PySem.W.typeIn K (.ref C) = some (.type "type")) && (PySem.W.keepIn K (.ref C) && oexB K C))))))))))
def cl2B (K : PySem.W.Frag) (C D : Addr) (c d : Nat) : Bool := decide (PySem.W.kitOne K (.ref C) (.ref D) = some (isSub c d)) && decide (PySem.W.exmOne K (.ref C) (.ref D) = some (isSub c d))
def cl0B (K : PySem.W.Frag) : Bool := decide (PySem.W.specialIn K (.builtin "object.__class__") "__get__" = some (some (.builtin "getset_descriptor.__get__"))) && decide (PySem.W.takesIn K (.builtin "object.__class__") = some true)
def clsB (K : PySem.W.Frag) (cads : List Addr) : Bool := cl0B K && (List.range 16).all fun c => cl1B K (cads.getD c 0) c && (List.range 16).all fun d => cl2B K (cads.getD c 0) (cads.getD d 0) c d
def cadOf (cads : List Addr) : Nat → Addr := fun c => cads.getD c 0
theorem ba {a b : Bool} (h : (a && b) = true) : a = true ∧ b = true := Bool.and_eq_true_iff.mp h
theorem clsB_ok {K : PySem.W.Frag} {cads : List Addr} (h : clsB K cads = true) : ClsF K (cadOf cads) ∧ ∀ c, c < 16 → OexC K (cadOf cads c) := by
  obtain ⟨h0, h⟩ := ba h
  obtain ⟨z1, z2⟩ := ba h0
  have one : ∀ c, c < 16 → cl1B K (cadOf cads c) c = true ∧ ∀ d, d < 16 → cl2B K (cadOf cads c) (cadOf cads d) c d = true := fun c hc => by
    obtain ⟨q1, q2⟩ := ba (List.all_eq_true.mp h c (List.mem_range.mpr hc))
    exact ⟨q1, fun d hd => List.all_eq_true.mp q2 d (List.mem_range.mpr hd)⟩
  have all : ∀ c, c < 16 → _ := fun c hc => ba (one c hc).1
  refine ⟨⟨fun c hc => ?_, fun c hc f hf => ?_, fun c d hc hd => of_decide_eq_true (ba ((one c hc).2 d hd)).1, fun c hc => ?_, fun c d hc hd => of_decide_eq_true (ba ((one c hc).2 d hd)).2⟩, fun c hc => ?_⟩
  all_goals
    obtain ⟨a1, q⟩ := ba (one c hc).1
    obtain ⟨a2, q⟩ := ba q
    obtain ⟨a3, q⟩ := ba q
    obtain ⟨a4, q⟩ := ba q
    obtain ⟨a5, q⟩ := ba q
    obtain ⟨a6, q⟩ := ba q
    obtain ⟨a7, q⟩ := ba q
    obtain ⟨a8, q⟩ := ba q
    obtain ⟨a9, q⟩ := ba q
    obtain ⟨a10, q⟩ := ba q
    obtain ⟨a11, a12⟩ := ba q
  · exact ⟨of_decide_eq_true a1, of_decide_eq_true a2, of_decide_eq_true a3, a4, of_decide_eq_true a5, of_decide_eq_true z1, of_decide_eq_true z2, of_decide_eq_true a6⟩
  · exact of_decide_eq_true (List.all_eq_true.mp a7 f hf)
  · exact of_decide_eq_true a8
  · exact ⟨oexB_ok a12, of_decide_eq_true a9, of_decide_eq_true a3, of_decide_eq_true a10, a11⟩
/-- a def's function object -/
structure FnF (K : PySem.W.Frag) (x qual : Str) (st : Stmt) (f : Addr) : Prop where
  ex : ∃ (oc : Value) (od : Option Addr) (kV doc pm : Value) (an : Option Addr) (cdv ct : Value) (osl : Array (Option Value)),
    K.lookup f = some ⟨oc, od, .func (PySem.W.fnOf x qual (defArgs st) (defBody st) (defScope st) .none kV doc pm an cdv ct), osl⟩ ∧ PySem.W.codeIn K cdv qual = true ∧ PySem.W.keepIn K (.ref f) = true
theorem fnF_mk {K : PySem.W.Frag} {x qual : Str} {st : Stmt} {f : Addr} {oc : Value} {od : Option Addr} {kV doc pm : Value} {an : Option Addr} {cdv ct : Value} {osl : Array (Option Value)}
    (l : K.lookup f = some ⟨oc, od, .func (PySem.W.fnOf x qual (defArgs st) (defBody st) (defScope st) .none kV doc pm an cdv ct), osl⟩) (c : PySem.W.codeIn K cdv qual = true) (k : PySem.W.keepIn K (.ref f) = true) : FnF K x qual st f := ⟨oc, od, kV, doc, pm, an, cdv, ct, osl, l, c, k⟩
def clsInit : Stmt → Stmt
  | .ClassDef _ _ _ body _ _ _ _ _ _ p => body.getD 0 (.Pass p)
  | s => s
variable {P : Program} {w : World} {K : PySem.W.Frag} {mg : Str → Option Value} {base : Heap} {C : RC} {Pg : Prg} {ds : List Def}
def BindsN (x qual : Str) (st : Stmt) (ps : List Str) : Prop := ∀ (kV doc pm : Value) (an : Option Addr) (cdv ct : Value) (us : List Value), us.length = ps.length → bindArgs (PySem.W.fnOf x qual (defArgs st) (defBody st) (defScope st) .none kV doc pm an cdv ct) ⟨us, []⟩ = pure (ps.zip us)
/-- a def's function object: its defaults by place, by name -/
structure FnV (K : PySem.W.Frag) (x : Str) (st : Stmt) (dts : List T) (kts : List (Str × T)) (f : Addr) : Prop where
  ex : ∃ (oc : Value) (od : Option Addr) (dV kV doc pm : Value) (an : Option Addr) (cdv ct : Value) (osl : Array (Option Value)),
    K.lookup f = some ⟨oc, od, .func (PySem.W.fnOf x x (defArgs st) (defBody st) (defScope st) dV kV doc pm an cdv ct), osl⟩ ∧ PySem.W.codeIn K cdv x = true ∧ PySem.W.keepIn K (.ref f) = true ∧ DflV K dV (dts.map Kdv) ∧ KwdV K kV (kts.map fun q => (q.1, Kdv q.2))
theorem FnF.v {x : Str} {st : Stmt} {f : Addr} (F : FnF K x x st f) : FnV K x st [] [] f := by
  obtain ⟨oc, od, kV, doc, pm, an, cdv, ct, osl, lk, hcd, hk⟩ := F.ex
  exact ⟨oc, od, .none, kV, doc, pm, an, cdv, ct, osl, lk, hcd, hk, .inl ⟨rfl, rfl⟩, .inl rfl⟩
/-- one way of a call binds so, whatever the def's object -/
def KdV (x : Str) (st : Stmt) (ps : List Str) (dts : List T) (kts : List (Str × T)) (q : Nat × List Str × List Nat × List T) : Prop := ∀ (K : PySem.W.Frag) (dV kV doc pm : Value) (an : Option Addr) (cdv ct : Value), DflV K dV (dts.map Kdv) → KwdV K kV (kts.map fun q => (q.1, Kdv q.2)) →
  KdOk K (PySem.W.fnOf x x (defArgs st) (defBody st) (defScope st) dV kV doc pm an cdv ct) ps q
section
variable {x : Str} {st : Stmt} {ps : List Str} {dts : List T} {kts : List (Str × T)} {n : Nat} {ks : List Str} {perm : List Nat}
/-- nothing is looked up -/
theorem kdv_A (h : ∀ (kV doc pm : Value) (an : Option Addr) (cdv ct : Value) (us ws : List Value), us.length = n → ws.length = ks.length → bindArgs (PySem.W.fnOf x x (defArgs st) (defBody st) (defScope st) .none kV doc pm an cdv ct) ⟨us, ks.zip ws⟩ = pure (ps.zip (permD .none perm [] us ws))) : KdV x st ps [] kts (n, ks, perm, []) := by
  intro K dV kV doc pm an cdv ct hD hK
  rcases hD with ⟨_, rfl⟩ | ⟨e, _⟩
  · exact ⟨[], .nil, fun s us ws _ l1 l2 => .of_eq (h kV doc pm an cdv ct us ws l1 l2)⟩
  · exact absurd rfl e
/-- names alone lack -/
theorem kdv_B (ms : List (Str × T)) (hms : ∀ q ∈ ms, q ∈ kts) (hk : kts ≠ [])
    (h : ∀ (D : Addr) (doc pm : Value) (an : Option Addr) (cdv ct : Value) (us ws mv : List Value), us.length = n → ws.length = ks.length → mv.length = ms.length → KwChain D ((ms.map (·.1)).zip mv) (bindArgs (PySem.W.fnOf x x (defArgs st) (defBody st) (defScope st) .none (.ref D) doc pm an cdv ct) ⟨us, ks.zip ws⟩) (ps.zip (permD .none perm mv us ws))) : KdV x st ps [] kts (n, ks, perm, ms.map (·.2)) := by
  intro K dV kV doc pm an cdv ct hD hK
  rcases hD with ⟨_, rfl⟩ | ⟨e, _⟩
  · rcases hK with e | ⟨D, rfl, hq⟩
    · exact absurd (List.map_eq_nil_iff.mp e) hk
    · obtain ⟨mv, hl, rk, hks⟩ := kwd_vals (ms := ms.map fun q => (q.1, Kdv q.2)) fun q hm => by
        obtain ⟨p, hp, rfl⟩ := List.mem_map.mp hm
        exact hq _ (List.mem_map.mpr ⟨p, hms p hp, rfl⟩)
      rw [List.map_map] at rk
      rw [List.map_map] at hks
      refine ⟨mv, by rw [List.map_map]; exact rk, fun s us ws X l1 l2 => BindsTo.of_looks fun M => KwChain.looks X hks (h D doc pm an cdv ct us ws mv l1 l2 (by rw [hl, List.length_map]))⟩
  · exact absurd rfl e
/-- values by place may lack -/
theorem kdv_C (hd : dts ≠ []) (h : ∀ (T : Addr) (kV doc pm : Value) (an : Option Addr) (cdv ct : Value) (us ws its : List Value), us.length = n → ws.length = ks.length → its.length = dts.length →
      ∃ k, bindArgs (PySem.W.fnOf x x (defArgs st) (defBody st) (defScope st) (.ref T) kV doc pm an cdv ct) ⟨us, ks.zip ws⟩ = seqItems? (.ref T) >>= k ∧ k (some its.toArray) = pure (ps.zip (permD .none perm its us ws))) : KdV x st ps dts kts (n, ks, perm, dts) := by
  intro K dV kV doc pm an cdv ct hD hK
  rcases hD with ⟨e, _⟩ | ⟨_, T, o, its, m, rfl, lT, oT, rT⟩
  · exact absurd (List.map_eq_nil_iff.mp e) hd
  · refine ⟨its, rT, fun s us ws X l1 l2 => ?_⟩
    obtain ⟨k, e1, e2⟩ := h T kV doc pm an cdv ct us ws its l1 l2 (by have := rT.length; rw [List.length_map] at this; exact this.symm)
    refine BindsTo.of_looks fun M => ?_
    rw [e1]
    exact looks_items X lT oT (.of_pure e2)
/-- both -/
theorem kdv_D (hd : dts ≠ []) (ms : List (Str × T)) (hms : ∀ q ∈ ms, q ∈ kts) (hk : kts ≠ []) (h : ∀ (T D : Addr) (doc pm : Value) (an : Option Addr) (cdv ct : Value) (us ws its mv : List Value), us.length = n → ws.length = ks.length → its.length = dts.length → mv.length = ms.length →
      ∃ k, bindArgs (PySem.W.fnOf x x (defArgs st) (defBody st) (defScope st) (.ref T) (.ref D) doc pm an cdv ct) ⟨us, ks.zip ws⟩ = seqItems? (.ref T) >>= k ∧ KwChain D ((ms.map (·.1)).zip mv) (k (some its.toArray)) (ps.zip (permD .none perm (its ++ mv) us ws))) : KdV x st ps dts kts (n, ks, perm, dts ++ ms.map (·.2)) := by
  intro K dV kV doc pm an cdv ct hD hK
  rcases hD with ⟨e, _⟩ | ⟨_, T, o, its, m, rfl, lT, oT, rT⟩
  · exact absurd (List.map_eq_nil_iff.mp e) hd
  · rcases hK with e | ⟨D, rfl, hq⟩
    · exact absurd (List.map_eq_nil_iff.mp e) hk
    · obtain ⟨mv, hl, rk, hks⟩ := kwd_vals (ms := ms.map fun q => (q.1, Kdv q.2)) fun q hm => by
        obtain ⟨p, hp, rfl⟩ := List.mem_map.mp hm
        exact hq _ (List.mem_map.mpr ⟨p, hms p hp, rfl⟩)
      rw [List.map_map] at rk
      rw [List.map_map] at hks
      refine ⟨its ++ mv, by rw [List.map_append, List.map_map]; exact rT.append rk, fun s us ws X l1 l2 => ?_⟩
      obtain ⟨k, e1, e2⟩ := h T D doc pm an cdv ct us ws its mv l1 l2 (by have := rT.length; rw [List.length_map] at this; exact this.symm) (by rw [hl, List.length_map])
      refine BindsTo.of_looks fun M => ?_
      rw [e1]
      exact looks_items X lT oT (KwChain.looks X hks e2)
end
theorem range_getD (us dv : List Value) : (List.range us.length).map (fun i => (us ++ [] ++ dv).getD i .none) = us := by
  refine List.ext_getElem? fun i => ?_
  rw [List.getElem?_map]
  by_cases h : i < us.length
  · rw [List.getElem?_range h]
    simp [List.getD_eq_getElem?_getD, List.getElem?_append_left h, List.getElem?_eq_getElem h]
  · rw [List.getElem?_eq_none (by rw [List.length_range]; omega), List.getElem?_eq_none (by omega)]
    rfl
theorem KdOk.all {fd : FuncData} {ps : List Str} {dfl : List T} (h : KdOk K fd ps (ps.length, [], List.range ps.length, dfl)) : Binds K fd ps [] := by
  obtain ⟨dv, _, h⟩ := h
  intro s us X hl
  rw [List.append_nil] at hl ⊢
  have := h s us [] X hl rfl
  simp only [permD] at this
  rw [← hl, range_getD] at this
  exact this
theorem fnV_mk {K : PySem.W.Frag} {x : Str} {st : Stmt} {f : Addr} {dts : List T} {kts : List (Str × T)} {oc : Value} {od : Option Addr} {dV kV doc pm : Value} {an : Option Addr} {cdv ct : Value} {osl : Array (Option Value)}
    (l : K.lookup f = some ⟨oc, od, .func (PySem.W.fnOf x x (defArgs st) (defBody st) (defScope st) dV kV doc pm an cdv ct), osl⟩) (c : PySem.W.codeIn K cdv x = true) (k : PySem.W.keepIn K (.ref f) = true) (hD : DflV K dV (dts.map Kdv)) (hK : KwdV K kV (kts.map fun q => (q.1, Kdv q.2))) : FnV K x st dts kts f := ⟨oc, od, dV, kV, doc, pm, an, cdv, ct, osl, l, c, k, hD, hK⟩
theorem dfl_none {K : PySem.W.Frag} : DflV K .none (([] : List T).map Kdv) := .inl ⟨rfl, rfl⟩
theorem dfl_some {K : PySem.W.Frag} {dts : List T} {A : Addr} {oc : Value} {od : Option Addr} {its : Array Value} {n : Nat} {osl : Array (Option Value)} (h : dts ≠ []) (l : K.lookup A = some ⟨oc, od, .seq its n, osl⟩) (r : Vals (dts.map Kdv) its.toList) : DflV K (.ref A) (dts.map Kdv) :=
  .inr ⟨fun z => h (List.map_eq_nil_iff.mp z), A, _, its.toList, n, rfl, l, by simp, r⟩
theorem kwd_none {K : PySem.W.Frag} {kV : Value} : KwdV K kV (([] : List (Str × T)).map fun q => (q.1, Kdv q.2)) := .inl rfl
/-- names and values in a dict -/
def KwAll (K : PySem.W.Frag) (D : Addr) : List (Str × T) → Prop
  | [] => True
  | q :: r => (∃ u, PySem.W.nsIn K D q.1 = some (some u) ∧ RelV (Kdv q.2) u) ∧ KwAll K D r
theorem kwd_some {K : PySem.W.Frag} {kts : List (Str × T)} {D : Addr} (h : KwAll K D kts) : KwdV K (.ref D) (kts.map fun q => (q.1, Kdv q.2)) := by
  refine .inr ⟨D, rfl, fun q hq => ?_⟩
  obtain ⟨p, hp, rfl⟩ := List.mem_map.mp hq
  have key : ∀ kts : List (Str × T), KwAll K D kts → p ∈ kts → ∃ u, PySem.W.nsIn K D p.1 = some (some u) ∧ RelV (Kdv p.2) u := by
    intro kts
    induction kts with
    | nil => intro _ h; cases h
    | cons q r ih =>
      intro h hm
      rcases List.mem_cons.mp hm with rfl | hm
      · exact h.1
      · exact ih h.2 hm
  exact key kts h hp
theorem kwAll_cons {K : PySem.W.Frag} {D : Addr} {x : Str} {t : T} {u : Value} {r : List (Str × T)} (h : PySem.W.nsIn K D x = some (some u)) (e : RelV (Kdv t) u) (hr : KwAll K D r) : KwAll K D ((x, t) :: r) := ⟨⟨u, h, e⟩, hr⟩
/-- a row of the table -/
def RowC (P : Program) (w : World) (K : PySem.W.Frag) (mg : Str → Option Value) (base : Heap) (C : RC) (Pg : Prg) (k : Nat) (i : FInfo) (d : Def) : Prop :=
  (d.prim = none → DefC P w K mg base Pg i d (decide (k ∈ Pg.hots)) (decide (k ∈ Pg.ho))) ∧ ∀ m, d.prim = some m → k ∉ Pg.hots ∧ ∀ j, FnAt P w K mg base C (j + 2) i (m j)
theorem row_def {k : Nat} {i : FInfo} {d : Def} {x : Str} {st : Stmt} {dts : List T} {kts : List (Str × T)} {f : Addr} {N : List Str} {fuel : Nat} (hp : d.prim = none) (hm : mg i.name = some (.ref f)) (F : FnV K x st dts kts f) (hb : i.pos = true → ∃ dfl, KdV x st i.ps dts kts (i.ps.length, [], List.range i.ps.length, dfl)) (hkd : ∀ q ∈ i.kd, KdV x st i.ps dts kts q) (S : FnScope N i.ps (defScope st)) (h1 : d.n = N.length) (h2 : d.io = i.io)
    (h3 : i.io.length = i.ps.length) (h4 : i.ps.length ≤ N.length) (h5 : decide (k ∈ Pg.ho) = false → chkSs Pg ⟨N, defScope st, false, fun _ => true⟩ fuel (defBody st) d.body = true) (h6 : decide (k ∈ Pg.hots) = true → chkSs Pg ⟨N, defScope st, true, fun _ => true⟩ fuel (defBody st) d.body = true) : RowC P w K mg base C Pg k i d := by
  refine ⟨fun _ => ?_, fun m e => (by rw [hp] at e; cases e)⟩
  obtain ⟨oc, od, dV, kV, doc, pm, an, cdv, ct, osl, lk, hcd, hk, hD, hK⟩ := F.ex
  exact ⟨f, _, st, x, N, fuel, hm, fun z => by
    obtain ⟨dfl, h⟩ := hb z
    exact (h K dV kV doc pm an cdv ct hD hK).all, fun q hq => hkd q hq K dV kV doc pm an cdv ct hD hK, ⟨⟨oc, od, dV, kV, doc, pm, an, cdv, ct, osl, rfl, lk, hcd⟩, hk⟩, S, h1, h2, h3, h4, h5, h6⟩
/-- a primitive's row -/
theorem row_prim {k : Nat} {i : FInfo} {d : Def} {m : Nat → List T → Fr} (hp : d.prim = some m) (hk : k ∉ Pg.hots) (h : ∀ j, FnAt P w K mg base C (j + 2) i (m j)) : RowC P w K mg base C Pg k i d :=
  ⟨fun e => (by rw [hp] at e; cases e), fun m' e => (by rw [hp] at e; cases e; exact ⟨hk, h⟩)⟩
inductive RowsC (P : Program) (w : World) (K : PySem.W.Frag) (mg : Str → Option Value) (base : Heap) (C : RC) (Pg : Prg) : Nat → List FInfo → List Def → Prop
  | nil {n} : RowsC P w K mg base C Pg n [] []
  | cons {n i d is ds} (h : RowC P w K mg base C Pg n i d) (r : RowsC P w K mg base C Pg (n + 1) is ds) : RowsC P w K mg base C Pg n (i :: is) (d :: ds)
theorem RowsC.get {n : Nat} {is : List FInfo} {ds : List Def} (r : RowsC P w K mg base C Pg n is ds) : ∀ (k : Nat) i, is[k]? = some i → ∃ d, ds[k]? = some d ∧ RowC P w K mg base C Pg (n + k) i d := by
  induction r with
  | nil => intro k i h; cases h
  | @cons n0 i0 d0 is0 ds0 h r ih =>
    intro k i e
    cases k with
    | zero => cases e; exact ⟨_, rfl, h⟩
    | succ k =>
      obtain ⟨d, e1, e2⟩ := ih k i e
      refine ⟨d, e1, ?_⟩
      rw [show n0 + (k + 1) = n0 + 1 + k from by omega]
      exact e2
/-- a class's maker -/
structure CIn (K : PySem.W.Frag) (A : Addr) (x : Str) (st : Stmt) (c : Nat) : Prop where
  ex : ∃ fI, PySem.W.findIn K (.ref A) "__init__" = some (some (.ref fI)) ∧ PySem.W.typeIn K (.ref fI) = some (.type "function") ∧ FnF K "__init__" x st fI
  bn : BindsN "__init__" x st ("self" :: flds c)
  sc : FnScope ("self" :: flds c) ("self" :: flds c) (defScope st)
  bd : inBody (flds c) (defBody st) = true
  ne : flds c ≠ []
theorem mkC_of {cads : List Addr} {c : Nat} {x : Str} {st : Stmt} (hc : c < 16) (F : ClsF K (cadOf cads)) (T : OexC K (cadOf cads c)) (I : CIn K (cadOf cads c) x st c) : MkC P w K mg base (cadOf cads) c := by
  obtain ⟨fI, h1, h2, h3⟩ := I.ex
  obtain ⟨oc, od, kV, doc, pm, an, cdv, ct, osl, lk, hcd, hk⟩ := h3.ex
  have FF : Fun K "__init__" x st fI (PySem.W.fnOf "__init__" x (defArgs st) (defBody st) (defScope st) .none kV doc pm an cdv ct) := ⟨⟨oc, od, kV, doc, pm, an, cdv, ct, osl, rfl, lk, hcd⟩, hk⟩
  exact ⟨T, fI, _, h1, h2, .all (I.bn kV doc pm an cdv ct), init_ok FF I.sc I.bd T I.ne (F.no c hc) (by unfold flds; split <;> decide)⟩
/-- the law's promise at its call -/
theorem law_sp {m : List T → Fr} {H : Hp} {a : Addr} {ns : List Int} {Q : VK} {E : XK} (hK : C.K = K) (hO : Only H) (hS : SqL K H a (ns.map V.int)) (h : ∃ ios, m [.scr ns] = .ok (.bl true) ios) (hQ : ∀ H', Q (.bl true) H') : spF C [false] m [.ref a] H Q E := by
  obtain ⟨ios, h⟩ := h
  refine ⟨fun _ => False, [.scr ns], [], ⟨.ref a, [], [], [], rfl, rfl, ⟨rfl, a, rfl, ?_⟩, rfl, rfl⟩, ⟨fun _ => rfl, trivial⟩, List.nodup_nil, fun a h => h.elim, ?_⟩
  · rw [hK]
    rcases hS with (hS | ⟨o, hS⟩) | hS
    · rcases hO a with e | ⟨o, xs, e⟩
      · rw [e] at hS; cases hS
      · rw [e] at hS; cases hS
    · exact .inl ⟨o, hS⟩
    · exact .inr (.inr hS)
  · rw [h]
    intro x H' S' F' F1 t sd rg n1 rx n2 dj
    rw [rx.1]
    exact hQ H'

theorem txt_of {cads : List Addr} (hK : C = ⟨K, cadOf cads, none⟩) (hB : clsB K cads = true) (bi : ∀ b ∈ Pg.bi, mg b = none) (cn : ∀ x t, Pg.cn.lookup x = some t → ∃ v u, mg x = some u ∧ RelV v u ∧ ∀ S H, Rp C S H t v [])
    (cc : ∀ x c, Pg.cls.lookup x = some c → mg x = some (.ref (cadOf cads c)) ∧ c < 16) (mk : ∀ c, 0 < c → c < 16 → c ≠ 9 → ∃ x st, CIn K (cadOf cads c) x st c) (rows : RowsC P w K mg base C Pg 0 Pg.fns ds) : TxtC P w K mg base C Pg ds := by
  subst hK
  obtain ⟨F, T⟩ := clsB_ok hB
  exact {
    hK := rfl
    cx := rfl
    bi := bi
    cn := cn
    cl := F
    cc := cc
    mkc := fun x k h h0 h9 => by
      obtain ⟨_, hl⟩ := cc x k h
      obtain ⟨y, st, I⟩ := mk k (by omega) hl h9
      exact mkC_of hl F (T k hl) I
    len := fun k i h => by
      obtain ⟨d, e, _⟩ := rows.get k i h
      exact ⟨d, e⟩
    df := fun k i d h1 h2 hp => by
      obtain ⟨d', e, r⟩ := rows.get k i h1
      rw [h2] at e
      cases e
      rw [Nat.zero_add] at r
      exact r.1 hp
    pr := fun k i d m h1 h2 hp => by
      obtain ⟨d', e, r⟩ := rows.get k i h1
      rw [h2] at e
      cases e
      rw [Nat.zero_add] at r
      exact r.2 m hp }
/-- the law's def -/
theorem law_fn {j : Nat} {k : Nat} {i : FInfo} {st : Stmt} {f : Addr} (T : TxtC P w K mg base C Pg ds) (hi : Pg.fns[k]? = some i) (ho : k ∉ Pg.ho) (hm : mg i.name = some (.ref f)) {oc : Value} {od : Option Addr} {osl : Array (Option Value)} {fd : FuncData} (lk : K.lookup f = some ⟨oc, od, .func fd, osl⟩) :
    FnOk P w K mg base (L2N.CX P w) (j + 2) f fd i.ps (spF C i.io (Mn ds j k)) := by
  obtain ⟨f', fd', h1, _, _, h2, _, oc', od', osl', h3⟩ := ((fns_ok T j).1 k i ho hi).ex
  rw [hm] at h1
  cases h1
  rw [lk] at h3
  cases h3
  exact h2
theorem lookup_mem {α β : Type} [BEq α] [LawfulBEq α] {x : α} {v : β} : ∀ {l : List (α × β)}, l.lookup x = some v → (x, v) ∈ l
  | [], h => by cases h
  | (y, u) :: l, h => by
    rw [List.lookup_cons] at h
    split at h
    · rename_i e
      cases h
      rw [eq_of_beq e]
      exact List.mem_cons_self
    · exact List.mem_cons_of_mem _ (lookup_mem h)
/-- the end of a law's row -/
theorem walk_law {l : PySem.W.OpenLaw} {q : Program} {loose : List Str} {XP : (Str → Option Value) → Heap → Prop} {YP : World → Heap → Prop} {d : DefRec} {Kp : Params → PySem.W.Frag} {cads : List Addr} {dl : List Def} {j k : Nat} (hn : l.most = some 63) (hdf : d.params.defaults = []) (hr : Room (j + 2) callerA)
    (hY : ∀ (w : World) (h : Heap), YP w h → (Kp w.params).In h) (plain : ∀ ns : List Int, ns.length ≤ 63 → (∀ z ∈ ns, Builtin.Int.intBits z ≤ 1048576) → ∃ ios, Mn dl j k [.scr ns] = .ok (.bl true) ios)
    (F : ∀ (w : World) (mg : Str → Option Value) (fa : Addr) (h : Heap), (Kp w.params).In h → h.Ns mainGlobals mg → mg d.name = some (.ref fa) →
      ∃ fd : FuncData, (∀ (s : Shared) (u : Value), BindsTo s fd ⟨[u], []⟩ [("script", u)]) ∧
        ∀ base : Heap, (Kp w.params).In base → base.Ns mainGlobals mg → FnOk l.prog w (Kp w.params) mg base (L2N.CX l.prog w) (j + 2) fa fd ["script"] (spF ⟨Kp w.params, cadOf cads, none⟩ [false] (Mn dl j k))) :
    PySem.W.WalkO q loose XP YP l.row.toRowW d [] (fun f vs => PySem.call f vs) :=
  walk_ofB (n := 63) (k := j + 2) (x := "script") (CX := fun w => L2N.CX l.prog w) (sp := fun w => spF ⟨Kp w.params, cadOf cads, none⟩ [false] (Mn dl j k)) hn (by decide) hdf hr hY F (fun w H a ns hl hb hO hS => law_sp rfl hO hS (plain ns hl hb) fun _ => rfl) fun w H s e s1 z => by
    obtain ⟨_, _, _, _, _, _, _, _, _, _, _, _, z⟩ := z
    exact z
end Kv

/-! Kv 22: spoiling a tree in place. -/
namespace Kv
open PySem L2 PySem.Spec PyProof.Rows
variable {P : Program} {wo : World} {K : PySem.W.Frag} {mg : Str → Option Value} {base : Heap} {C : RC} {S S' : Addr → Prop} {H H' : Hp} {X : Cx} {W : WX} {σ τ : L2.St}
theorem rpl_split {t : T} {b : List T} : ∀ (a : List T) (vs : List V) (F : List Addr), RpL C S H (a ++ t :: b) vs F → ∃ va v vb A Fi B, vs = va ++ v :: vb ∧ va.length = a.length ∧ F = A ++ (Fi ++ B) ∧ RpL C S H a va A ∧ Rp C S H t v Fi ∧ RpL C S H b vb B
  | [], vs, F, ⟨v, ws, F1, F2, e, eF, r1, r2⟩ => ⟨[], v, ws, [], F1, F2, e, rfl, eF, ⟨rfl, rfl⟩, r1, r2⟩
  | u :: a, vs, F, ⟨x, ws, F1, F2, e, eF, r1, r2⟩ => by
    obtain ⟨va, v, vb, A, Fi, B, e2, l2, f2, q1, q2, q3⟩ := rpl_split a ws F2 r2
    refine ⟨x :: va, v, vb, F1 ++ A, Fi, B, by rw [e, e2] <;> rfl, by rw [List.length_cons, List.length_cons, l2], by rw [eF, f2, List.append_assoc], ⟨x, va, F1, A, rfl, rfl, r1, q1⟩, q2, q3⟩
theorem rpl_join {t : T} {v : V} {b : List T} {vb : List V} {Fi B : List Addr} (q2 : Rp C S H t v Fi) (q3 : RpL C S H b vb B) : ∀ (a : List T) (va : List V) (A : List Addr), RpL C S H a va A → RpL C S H (a ++ t :: b) (va ++ v :: vb) (A ++ (Fi ++ B))
  | [], va, A, ⟨e, eA⟩ => by
    subst e eA
    exact ⟨v, vb, Fi, B, rfl, rfl, q2, q3⟩
  | u :: a, va, A, ⟨x, ws, F1, F2, e, eF, r1, r2⟩ => by
    subst e eF
    exact ⟨x, ws ++ v :: vb, F1, F2 ++ (Fi ++ B), rfl, by rw [List.append_assoc], r1, rpl_join q2 q3 a ws F2 r2⟩
/-- the first i are spoilt -/
def spK (w : Str) (i : Nat) (xs : List T) : List T := T.spL w (xs.take i) ++ xs.drop i
theorem spL_app (w : Str) : ∀ (a b : List T), T.spL w (a ++ b) = T.spL w a ++ T.spL w b
  | [], b => rfl
  | t :: a, b => by
    show (t.sp w) :: T.spL w (a ++ b) = (t.sp w) :: (T.spL w a ++ T.spL w b)
    rw [spL_app w a b]
theorem spL_len (w : Str) : ∀ (a : List T), (T.spL w a).length = a.length
  | [] => rfl
  | t :: a => by
    show (T.spL w a).length + 1 = a.length + 1
    rw [spL_len w a]
theorem spK_split {w : Str} {xs : List T} {i : Nat} (hi : i < xs.length) : spK w i xs = T.spL w (xs.take i) ++ xs[i] :: xs.drop (i + 1) ∧ spK w (i + 1) xs = T.spL w (xs.take i) ++ (xs[i].sp w) :: xs.drop (i + 1) := by
  refine ⟨by unfold spK; rw [List.drop_eq_getElem_cons hi], ?_⟩
  unfold spK
  rw [List.take_succ_eq_append_getElem hi, spL_app]
  show T.spL w (xs.take i) ++ [(xs[i].sp w)] ++ _ = _
  rw [List.append_assoc]
  rfl
/-- the loop over the parts -/
theorem spoil_loop {w : Str} {m : List T → Fr} {J : L2.It} {xs : List T} {vs : List V} {F : List Addr} {p : Addr} {D : Ends} {E : L2.St → XK} {tg : TI} (hm : ∀ t ∈ xs, m [t] = .ok .non [some (t.sp w)])
    (hgo : ∀ i H3, (∀ b o, H b = some o → b ∉ F → H3 b = some o) → i < xs.length → J.go i H3) (hst : ∀ i H3, (∀ b o, H b = some o → b ∉ F → H3 b = some o) → xs.length ≤ i → J.stop i H3)
    (hy : ∀ i x H3 H4, (∀ b o, H b = some o → b ∉ F → H3 b = some o) → J.yld i H3 x H4 → H4 = H3 ∧ vs[i]? = some x) (r : RpL C S H xs vs F) (nd : F.Nodup) (sd : SDom S H) (hs : 1 < σ.length)
    (k : ∀ τ S' H' F', Tr S H F S' H' F' → RpL C S' H' (T.spL w xs) vs F' → F'.Nodup → SDom S' H' → (∀ j : Nat, j ≠ 1 → τ[j]? = σ[j]?) → τ.length = σ.length → D.nx τ H') :
    ∃ W : Nat → Nat → L2.St → Hp → Prop, (∃ m, W 0 m σ H) ∧ ∀ i n σ3 H3, W i n σ3 H3 →
      (J.stop i H3 ∧ D.nx σ3 H3) ∨ (J.go i H3 ∧ ∃ N : L2.St → Hp → Prop, (∀ σ' H', N σ' H' → ∃ m', m' < n ∧ W (i + 1) m' σ' H') ∧ ∀ x H4, J.yld i H3 x H4 → gName 1 x σ3 H4 fun σ2 H2 => tDrop (tCallS (spF C [true] m) E (tCons (tVar 1) tNil)) { D with nx := N, ct := N, bk := D.nx } σ2 H2) := by
  have own0 := RpL.own xs vs F r
  refine ⟨fun i n σ3 H3 => n = xs.length - i ∧ ∃ S3 F3, Tr S H F S3 H3 F3 ∧ RpL C S3 H3 (spK w i xs) vs F3 ∧ F3.Nodup ∧ SDom S3 H3 ∧ (∀ j : Nat, j ≠ 1 → σ3[j]? = σ[j]?) ∧ σ3.length = σ.length, ⟨xs.length, by simp, S, F, Tr.refl, r, nd, sd, fun j _ => rfl, rfl⟩, ?_⟩
  rintro i n σ3 H3 ⟨rfl, S3, F3, t3, r3, n3, d3, e3, l3⟩
  have kp : ∀ b o, H b = some o → b ∉ F → H3 b = some o := t3.keep
  by_cases hi : i < xs.length
  · refine .inr ⟨hgo i H3 kp hi, fun σ4 H4 => ∃ S4 F4, Tr S H F S4 H4 F4 ∧ RpL C S4 H4 (spK w (i + 1) xs) vs F4 ∧ F4.Nodup ∧ SDom S4 H4 ∧ (∀ j : Nat, j ≠ 1 → σ4[j]? = σ[j]?) ∧ σ4.length = σ.length, fun σ' H' hN => ⟨_, by omega, rfl, hN⟩, fun x H4 hyy => ?_⟩
    obtain ⟨e4, ex⟩ := hy i x H3 H4 kp hyy
    have e4' : H3 = H4 := e4.symm
    subst e4'
    obtain ⟨q1, q2⟩ := spK_split hi
    rw [q1] at r3
    obtain ⟨va, v, vb, A, Fi, B, ev, lv, eF, ra, ri, rb⟩ := rpl_split _ _ _ r3
    have hx : v = x := by
      rw [ev, List.getElem?_append_right (by rw [lv, spL_len, List.length_take]; omega), lv, spL_len, List.length_take, show i - min i xs.length = 0 by omega] at ex
      exact Option.some.inj ex
    subst hx
    subst eF
    obtain ⟨nA, nB, dAB⟩ := nd_dj n3
    obtain ⟨nI, nB2, dIB⟩ := nd_dj nB
    have dIA : ∀ b ∈ A, b ∉ Fi := fun b hb hf => dAB b (List.mem_append_left _ hf) hb
    have dB : ∀ b ∈ B, b ∉ Fi := dIB
    have oI := Rp.own _ _ _ ri
    have oA := RpL.own _ _ _ ra
    have oB := RpL.own _ _ _ rb
    refine ⟨v, ?_, S3, [xs[i]], Fi, ⟨v, [], Fi, [], rfl, by rw [List.append_nil], ri, rfl, rfl⟩, ⟨(fun h => nomatch h), trivial⟩, nI, d3, ?_⟩
    · rw [List.getElem?_set_self (by rw [l3]; exact hs)]
    · rw [hm _ (List.getElem_mem hi)]
      intro y H5 S5 F5 F1 t5 sd5 rg n5 ry n1 dj
      obtain ⟨_, _, Fa, Fb, e1, eF5, r5, e2, e3'⟩ := rg
      cases e1
      subst e3'
      rw [List.append_nil] at eF5
      subst eF5
      have t5' : Tr S3 H3 Fi S5 H5 F5 := t5.sub' fun b hb => List.mem_append_left _ hb
      have nA5 : ∀ b ∈ A, b ∉ F5 := t5'.noF dIA oA
      have nB5 : ∀ b ∈ B, b ∉ F5 := t5'.noF dB oB
      have t6 : Tr S3 H3 (A ++ (Fi ++ B)) S5 H5 (A ++ (F5 ++ B)) := by
        refine ((t5'.aside (F0 := A ++ B)).more (F0 := A ++ (Fi ++ B)) fun b hb => ?_).sub' fun b hb => ?_
        · simp only [List.mem_append] at hb ⊢
          rcases hb with h | h | h
          · exact .inr (.inl h)
          · exact .inl h
          · exact .inr (.inr h)
        · simp only [List.mem_append] at hb ⊢
          rcases hb with h | h | h
          · exact .inr (.inl h)
          · exact .inl h
          · exact .inr (.inr h)
      refine ⟨S5, A ++ (F5 ++ B), t3.trans t6, ?_, ?_, sd5, fun j hj => ?_, by rw [List.length_set, l3]⟩
      · rw [q2, ev]
        exact rpl_join r5 (t5'.rpL oI dB rb) _ _ _ (t5'.rpL oI dIA ra)
      · refine List.nodup_append.mpr ⟨nA, List.nodup_append.mpr ⟨n5, nB2, fun a ha b hb e => nB5 b hb (e ▸ ha)⟩, fun a ha b hb e => ?_⟩
        subst e
        rcases List.mem_append.mp hb with h | h
        · exact nA5 a ha h
        · exact dAB a (List.mem_append_right _ h) ha
      · rw [List.getElem?_set_ne (fun z => hj z.symm)]
        exact e3 j hj
  · refine .inl ⟨hst i H3 kp (by omega), k σ3 S3 H3 F3 t3 ?_ n3 d3 e3 l3⟩
    unfold spK at r3
    rw [List.take_of_length_le (by omega), List.drop_eq_nil_of_le (by omega), List.append_nil] at r3
    exact r3

def isBlt (e : Expr) (x t : String) : Bool := match e with
  | .Call (.Name f _) [.Name a _, .Name ty _] [] _ => decide (f = ("isinstance" : Str)) && decide (a = Str.ofString x) && decide (ty = Str.ofString t)
  | _ => false
def isLoop (nm : Str) (s : Stmt) : Bool := match s with
  | .For (.Name pt _) (.Name th _) [.Expr (.Call (.Name g _) [.Name q _] [] _) _] [] _ => decide (pt = ("part" : Str)) && decide (th = ("thing" : Str)) && decide (g = nm) && decide (q = ("part" : Str))
  | _ => false
def isApp (w : Str) (s : Stmt) : Bool := match s with
  | .Expr (.Call (.Attribute (.Name th _) m apos) [.Constant (.str z) _ _] [] cpos) _ => decide (th = ("thing" : Str)) && decide (m = ("append" : Str)) && decide (z = w) && (apos.endLine == cpos.line)
  | _ => false
def spN : List Str := ["thing", "part"]
/-- the text of the def that spoils -/
def spoilB (w nm : Str) (st : Stmt) : Bool := glB (defScope st) "isinstance" && glB (defScope st) "list" && glB (defScope st) "tuple" && glB (defScope st) nm && noDbg nm && decide ((defScope st).names.lookup ("thing" : Str) = some .local) && decide ((defScope st).names.lookup ("part" : Str) = some .local) &&
  (match defBody st with
    | [.If c1 [l1, a1] [] _, .If c2 [l2] [] _] => isBlt c1 "thing" "list" && isLoop nm l1 && isApp w a1 && isBlt c2 "thing" "tuple" && isLoop nm l2
    | [.If (.BoolOp .Or [c1, c2] _) [l1] [] _, .If c3 [a1] [] _] => isBlt c1 "thing" "list" && isBlt c2 "thing" "tuple" && isLoop nm l1 && isBlt c3 "thing" "list" && isApp w a1
    | _ => false)
abbrev spRow (x : Str) (ps : List Str) : FInfo := ⟨x, ps, [true], [], true⟩
abbrev tIs (C : RC) (n : String) : TE := tCB (fun xs H Q => ∃ x, xs = [x, .ty n] ∧ rOp C (.isT n) [x] H Q) (tCons (tVar 0) (tCons (tC (.ty n)) tNil))
section
variable {j : Nat} {M : Fns} {Z : Nm} {x : Str} {Pg : Prg}
theorem spoil_isE (c : Ctx Pg C M j Z W X) (hN : X.N = spN) (h0 : glB Z.sc "isinstance" = true) (hb0 : ("isinstance" : Str) ∈ Pg.bi) {t : String} (ht : t = "list" ∨ t = "tuple") (h1 : glB Z.sc (Str.ofString t) = true) (hb1 : Str.ofString t ∈ Pg.bi) (hv : Z.sc.names.lookup ("thing" : Str) = some .local) {e : Expr} (h : isBlt e "thing" t = true) : PE X e (tIs C t) := by
  unfold isBlt at h
  split at h
  · rename_i f p1 a p2 ty p3 p4
    simp only [Bool.and_eq_true, decide_eq_true_eq] at h
    obtain ⟨⟨rfl, rfl⟩, rfl⟩ := h
    have pv : PE X (.Name (Str.ofString "thing") p2) (tVar 0) := pe_var (by rw [hN]; rfl) (by rw [c.sc]; exact .inl hv) (by decide) (by decide)
    have hd : (Str.ofString t == ("__debug__" : Str)) = false := by rcases ht with h | h <;> subst h <;> decide
    have ht' : t = "int" ∨ t = "bool" ∨ t = "str" ∨ t = "list" ∨ t = "tuple" := by
      rcases ht with h | h
      · exact .inr (.inr (.inr (.inl h)))
      · exact .inr (.inr (.inr (.inr h)))
    have pt : PE X (.Name (Str.ofString t) p3) (tC (.ty t)) := ty_pe ht' rfl (c.gl h1) (c.bi _ hb1) hd
    exact pe_callB (ok_isT c.hK ht') (c.gl h0) (c.bi _ hb0) (by decide +kernel) (pa_cons pv (pa_cons pt pa_nil)) (by decide) (by decide) rfl rfl
  · cases h
theorem spoil_is (c : Ctx Pg C M j Z W X) (hN : X.N = spN) (h0 : glB Z.sc "isinstance" = true) (hb0 : ("isinstance" : Str) ∈ Pg.bi) {t : String} (ht : t = "list" ∨ t = "tuple") (h1 : glB Z.sc (Str.ofString t) = true) (hb1 : Str.ofString t ∈ Pg.bi) (hv : Z.sc.names.lookup ("thing" : Str) = some .local) {e : Expr} (h : isBlt e "thing" t = true) : PT X e (tB (tIs C t)) := by
  have p := spoil_isE c hN h0 hb0 ht h1 hb1 hv h
  unfold isBlt at h
  split at h
  · exact pt_val p
  · cases h
/-- a list or a tuple -/
theorem spoil_or (c : Ctx Pg C M j Z W X) (hN : X.N = spN) (h0 : glB Z.sc "isinstance" = true) (hb0 : ("isinstance" : Str) ∈ Pg.bi) (h1 : glB Z.sc "list" = true) (hb1 : ("list" : Str) ∈ Pg.bi) (h2 : glB Z.sc "tuple" = true) (hb2 : ("tuple" : Str) ∈ Pg.bi) (hv : Z.sc.names.lookup ("thing" : Str) = some .local) {a b : Expr} {p : Pos} (ha : isBlt a "thing" "list" = true) (hb : isBlt b "thing" "tuple" = true) : PW X (.BoolOp .Or [a, b] p) (tOr (tB (tIs C "list")) (tB (tIs C "tuple"))) :=
  pw_or (spoil_is c hN h0 hb0 (.inl rfl) h1 hb1 hv ha) (pw_or1 (spoil_is c hN h0 hb0 (.inr rfl) h2 hb2 hv hb))
theorem spoil_for (c : CtxS Pg C M j Z W X) (hz : Z.hot = false) (hN : X.N = spN) (hv : Z.sc.names.lookup ("thing" : Str) = some .local) (hp : Z.sc.names.lookup ("part" : Str) = some .local) (hg : glB Z.sc x = true) (hd : noDbg x = true) (hf : Pg.fns[0]? = some (spRow x ["thing"])) (ho : 0 ∉ Pg.ho) {s : Stmt} (h : isLoop x s = true) :
    PS X s (tFor (iSeq X.K (tVar 0)) (gName 1) (tDrop (tCallS (spF C [true] (M 0)) (fun σ cls d H2 => W cls d σ H2) (tCons (tVar 1) tNil)))) := by
  unfold isLoop at h
  split at h
  · rename_i pt p1 th p2 g p3 q p4 p5 p6 p7
    simp only [Bool.and_eq_true, decide_eq_true_eq] at h
    obtain ⟨⟨⟨rfl, rfl⟩, rfl⟩, rfl⟩ := h
    have pv : ∀ p, PE X (.Name ("thing" : Str) p) (tVar 0) := fun p => pe_var (by rw [hN]; rfl) (by rw [c.c.sc]; exact .inl hv) (by decide) (by decide)
    have pp : ∀ p, PE X (.Name ("part" : Str) p) (tVar 1) := fun p => pe_var (by rw [hN]; rfl) (by rw [c.c.sc]; exact .inl hp) (by decide) (by decide)
    have pl : X.env.scope.names.lookup ("part" : Str) = some .local := by rw [c.c.sc]; exact hp
    obtain ⟨fa, fd, hm, hk, hb, F, _⟩ := (c.c.fns hz 0 _ ho hf).ex
    exact ps_for c.pass (c.c.calm hz).1 (pi_seq (pv _)) (pg_name (i := 1) c.c.nd (by rw [hN]; rfl) (.inl pl) (.inr pl)) (pss_one (ps_expr (pe_callS F (c.c.calm hz).2 (c.c.gl hg) hm hk (hb rfl) (fun σ => L2N.passAt c.c.tk σ) (pa_cons (pp _) pa_nil) (dbg_of hd).1 rfl rfl) rfl)) (fun _ => rfl)
  · cases h
theorem spoil_app {w : Str} (c : Ctx Pg C M j Z W X) (hN : X.N = spN) (hv : Z.sc.names.lookup ("thing" : Str) = some .local) {s : Stmt} (h : isApp w s = true) : PS X s (tS C W M [0] (.app 0 (.k (.str w)))) := by
  unfold isApp at h
  split at h
  · rename_i th p1 m apos z k p2 cpos p3
    simp only [Bool.and_eq_true, decide_eq_true_eq] at h
    obtain ⟨⟨⟨rfl, rfl⟩, ez⟩, hl⟩ := h
    subst ez
    have pv : PE X (.Name ("thing" : Str) p1) (tVar 0) := pe_var (by rw [hN]; rfl) (by rw [c.sc]; exact .inl hv) (by decide) (by decide)
    have pz : PE X (.Constant (.str z) k p2) (tD C W M (.k (.str z))) := pe_imp pe_str fun σ H Q q => td_k (t := .str _) (v := .str _) (fun S => ⟨rfl, rfl⟩) q
    refine ps_imp (ps_expr (pe_bm PySem.F.plainAttrs_list PySem.F.slot_list_append PySem.F.type_list_append mt_append pv (pa_cons pz pa_nil) rfl rfl hl rfl rfl) rfl) fun D σ H q => ?_
    rw [← c.hK]
    exact ts_app q
  · cases h
end
end Kv

/-! Kv 23: the def that spoils keeps its promise. -/
namespace Kv
open PySem L2 PySem.Spec PyProof.Rows
variable {P : Program} {wo : World} {K : PySem.W.Frag} {mg : Str → Option Value} {base : Heap} {C : RC} {S S' : Addr → Prop} {H H' : Hp} {X : Cx} {W : WX} {σ τ : L2.St}
theorem fzL_fz : ∀ ts : List T, T.fzL (T.fzL ts) = T.fzL ts
  | [] => rfl
  | t :: ts => by
    show t.fz.fz :: T.fzL (T.fzL ts) = t.fz :: T.fzL ts
    rw [T.fz_fz, fzL_fz ts]
theorem fk_of_fz (t : T) : t.fz.fk = t.fz := by
  cases t <;> first
    | rfl
    | skip
  · show T.lst false (T.fzL (T.fzL _)) = T.lst false (T.fzL _)
    rw [fzL_fz]
  · show T.tup (T.fzL (T.fzL _)) = T.tup (T.fzL _)
    rw [fzL_fz]
theorem isTy_fz (n : String) (t : T) : isTy n t.fz = isTy n t := by cases t <;> rfl
theorem is_val {t : T} {v : V} {F : List Addr} {n : String} {b : Bool} {Q : VK} (r : Rp C S H t v F) (sd : SDom S H) (e : isTy n t = some b) (q : ∀ H', Same H H' → Q (.bl b) H') : rOp C (.isT n) [v] H Q := by
  refine ⟨SF S F, [t.fz], .bl b, ⟨v, [], rfl, ⟨[], Rp.froz (fun a z => .inl z) t v F (fun b hb => .inr hb) r⟩, rfl⟩, fun u hu => ?_, fun a z => z.elim (sd a) fun z => (Rp.own t v F r a z).2, ?_, fun x H' F1 k _ _ rx => ?_⟩
  · rw [List.mem_singleton.mp hu]
    exact fk_of_fz t
  · show (isTy n t.fz).map T.bl = some (.bl b)
    rw [isTy_fz, e] <;> rfl
  · rw [rx.1]
    exact q H' k
theorem if_is {t : T} {v : V} {F : List Addr} {n : String} {b : Bool} {A B : TS} {D : Ends} (r : Rp C S H t v F) (sd : SDom S H) (e : isTy n t = some b) (hv : σ[0]? = some (some v)) (q : ∀ H', Same H H' → if b = true then A D σ H' else B D σ H') : tIfS (tB (tIs C n)) A B D σ H :=
  ⟨v, hv, v, rfl, is_val r sd e fun H' k => ⟨b, rfl, q H' k⟩⟩
theorem spoil_kids {w : Str} {j : Nat} : ∀ xs : List T, T.deepL xs = true → T.shortL xs = true → T.depthL xs < j → ∀ t ∈ xs, spoilM w j [t] = .ok .non [some (t.sp w)]
  | [], _, _, _, t, ht => nomatch ht
  | u :: us, h1, h2, h3, t, ht => by
    have h1' : u.deep = true ∧ T.deepL us = true := by simpa [T.deepL] using h1
    have h2' : u.short = true ∧ T.shortL us = true := by simpa [T.shortL] using h2
    have h3' : max u.depth (T.depthL us) < j := h3
    rcases List.mem_cons.mp ht with e | ht
    · subst e
      show (if _ then _ else _) = _
      rw [if_pos (by rw [h1'.1, h2'.1, decide_eq_true (by omega : t.depth < j)] <;> rfl)]
    · exact spoil_kids us h1'.2 h2'.2 (by omega) t ht
theorem same_tr {F : List Addr} (k : Same H H') : Tr S H F S H' F := (Tr.alloc (F1 := []) k fun b hb => nomatch hb).sub' fun b hb => by rw [List.append_nil]; exact hb
theorem sdom_same (k : Same H H') (sd : SDom S H) : SDom S H' := fun a h => by
  obtain ⟨ys, e⟩ := sd a h
  exact ⟨ys, k a _ e⟩
theorem rp_same {t : T} {v : V} {F : List Addr} (k : Same H H') (r : Rp C S H t v F) : Rp C S H' t v F := Rp.stay (fun _ z => z) t v F (fun b o e _ => k b o e) (fun b hb => (Rp.own t v F r b hb).1) r
theorem spoil_pure {w : Str} {j : Nat} {M : Fns} (hM : M 0 = spoilM w j) (hK : C.K = K) (E' : L2.St → XK) (W : WX) (vs : List V) (H : Hp) (Q : VK) (E : XK) (h : spF C [true] (spoilM w (j + 1)) vs H Q E) :
    tSeq (tIfS (tB (tIs C "list")) (tSeq (tFor (iSeq K (tVar 0)) (gName 1) (tDrop (tCallS (spF C [true] (M 0)) E' (tCons (tVar 1) tNil)))) (tS C W M [0] (.app 0 (.k (.str w))))) tNext)
      (tIfS (tB (tIs C "tuple")) (tFor (iSeq K (tVar 0)) (gName 1) (tDrop (tCallS (spF C [true] (M 0)) E' (tCons (tVar 1) tNil)))) tNext) { nx := fun _ H' => Q .non H', rt := Q } (L2.start spN vs) H := by
  obtain ⟨S, ts, F, r, fz, nd, sd, h⟩ := h
  have hl := fz.len
  match ts, hl, r, h with
  | [t], _, ⟨v, vs', F1, F2, ev, eF, r, e2, eF2⟩, h =>
    subst ev e2
    rw [eF2, List.append_nil] at eF
    subst eF
    have hM' : spoilM w (j + 1) [t] = if (t.deep && t.short && decide (T.depth t < j + 1)) = true then .ok .non [some (t.sp w)] else .bad := rfl
    rw [hM'] at h
    by_cases hc : (t.deep && t.short && decide (T.depth t < j + 1)) = true
    · rw [if_pos hc] at h
      simp only [Bool.and_eq_true, decide_eq_true_eq] at hc
      obtain ⟨⟨c1, c2⟩, c3⟩ := hc
      have fin : ∀ H' S' F', Tr S H F S' H' F' → SDom S' H' → Rp C S' H' (t.sp w) v F' → F'.Nodup → Q .non H' := fun H' S' F' t1 s1 r1 n1 =>
        h .non H' S' F' [] (by rw [List.append_nil]; exact t1) s1 ⟨v, [], F', [], rfl, by rw [List.append_nil], r1, rfl, rfl⟩ n1 ⟨rfl, rfl⟩ List.nodup_nil fun b hb => nomatch hb
      have s0 : (L2.start spN [v])[0]? = some (some v) := rfl
      have scal : ∀ (e1 : isTy "list" t = some false) (e2 : isTy "tuple" t = some false) (e3 : (t.sp w) = t), _ := fun e1 e2 e3 => by
        refine if_is (σ := L2.start spN [v]) (A := tSeq (tFor (iSeq K (tVar 0)) (gName 1) (tDrop (tCallS (spF C [true] (M 0)) E' (tCons (tVar 1) tNil)))) (tS C W M [0] (.app 0 (.k (.str w))))) (B := tNext)
          (D := { nx := fun σ H => (tIfS (tB (tIs C "tuple")) (tFor (iSeq K (tVar 0)) (gName 1) (tDrop (tCallS (spF C [true] (M 0)) E' (tCons (tVar 1) tNil)))) tNext) { nx := fun _ H' => Q .non H', rt := Q } σ H, rt := Q }) r sd e1 s0 fun H1 k1 => ?_
        rw [if_neg Bool.false_ne_true]
        refine if_is (rp_same k1 r) (sdom_same k1 sd) e2 s0 fun H2 k2 => ?_
        rw [if_neg Bool.false_ne_true]
        have k3 : Same H H2 := fun b o e => k2 b o (k1 b o e)
        exact fin H2 S F (same_tr k3) (sdom_same k3 sd) (by rw [e3]; exact rp_same k3 r) nd
      cases t with
      | scr _ => cases c1
      | dic _ => cases c1
      | exc _ _ => cases c1
      | non => exact scal rfl rfl rfl
      | bl b => exact scal rfl rfl rfl
      | int i => exact scal rfl rfl rfl
      | str z => exact scal rfl rfl rfl
      | tup xs =>
        have c1' : T.deepL xs = true := c1
        have c2' : T.shortL xs = true := c2
        have c3' : T.depthL xs + 1 < j + 1 := c3
        refine if_is (S := S) (F := F) r sd (show isTy "list" (.tup xs) = some false from rfl) s0 fun H1 k1 => ?_
        rw [if_neg Bool.false_ne_true]
        refine if_is (rp_same k1 r) (sdom_same k1 sd) (show isTy "tuple" (.tup xs) = some true from rfl) s0 fun H2 k2 => ?_
        rw [if_pos rfl]
        have k3 : Same H H2 := fun b o e => k2 b o (k1 b o e)
        obtain ⟨a, ws, ex, ha, rl⟩ := rp_same k3 r
        subst ex
        have own := RpL.own _ _ _ rl
        have na : a ∉ F := fun z => by
          obtain ⟨_, ys, e⟩ := own a z
          rw [ha] at e; cases e
        have at3 : ∀ H3 : Hp, (∀ b o, H2 b = some o → b ∉ F → H3 b = some o) → H3 a = some (.tup ws) := fun H3 kp => kp a _ ha na
        refine ⟨.ref a, s0, .inr ⟨a, rfl, .inr ⟨⟨ws, .of ha⟩, ?_⟩⟩⟩
        rw [hM]
        have hl := rl.length
        refine spoil_loop (S := S) (H := H2) (F := F) (vs := ws) (p := a) (tg := fun _ _ _ => True) (spoil_kids xs c1' c2' (by omega)) (fun i H3 kp hi => ⟨ws, ws[i]'(by omega), .of (at3 H3 kp), List.getElem?_eq_getElem (by omega)⟩) (fun i H3 kp hi => ⟨ws, .of (at3 H3 kp), by omega⟩) (fun i x H3 H4 kp y => ⟨y.1, y.2 ws (.of (at3 H3 kp))⟩) rl nd (sdom_same k3 sd) (Nat.lt_succ_self 1) fun τ S' H' F' t1 r1 n1 s1 _ _ => ?_
        exact fin H' S' F' ((same_tr k3).trans t1) s1 ⟨a, ws, rfl, t1.keep a _ ha na, r1⟩ n1
      | lst o xs =>
        have co : o = true ∧ T.deepL xs = true := by simpa [T.deep] using c1
        have cs : xs.length < sizeLine ∧ T.shortL xs = true := by simpa [T.short] using c2
        have c3' : T.depthL xs + 1 < j + 1 := c3
        obtain ⟨rfl, c1'⟩ := co
        refine if_is (S := S) (F := F) r sd (show isTy "list" (.lst true xs) = some true from rfl) s0 fun H2 k3 => ?_
        rw [if_pos rfl]
        obtain ⟨a, ws, F', ex, ha, rl, hS, eF⟩ := rp_same k3 r
        subst ex eF
        obtain ⟨na, nd'⟩ := List.nodup_cons.mp nd
        have own := RpL.own _ _ _ rl
        have at3 : ∀ H3 : Hp, (∀ b o, H2 b = some o → b ∉ F' → H3 b = some o) → H3 a = some (.lst ws) := fun H3 kp => kp a _ ha na
        refine ⟨.ref a, s0, .inr ⟨a, rfl, .inl ⟨⟨ws, .of ha⟩, ?_⟩⟩⟩
        rw [hM]
        have hl := rl.length
        refine spoil_loop (S := S) (H := H2) (F := F') (vs := ws) (p := a) (tg := fun _ _ _ => True) (spoil_kids xs c1' cs.2 (by omega)) (fun i H3 kp hi => ⟨ws, ws[i]'(by omega), .of (at3 H3 kp), List.getElem?_eq_getElem (by omega)⟩) (fun i H3 kp hi => ⟨ws, .of (at3 H3 kp), by omega⟩) (fun i x H3 H4 kp y => ⟨y.1, y.2 ws (.of (at3 H3 kp))⟩) rl nd' (sdom_same k3 sd) (Nat.lt_succ_self 1) fun τ S' H' F2 t1 r1 n1 s1 hτ lτ => ?_
        have ha' : H' a = some (.lst ws) := t1.keep a _ ha na
        have oa : ∀ b ∈ [a], ¬ S b ∧ ∃ ys, H2 b = some (.lst ys) := fun b hb => by rw [List.mem_singleton.mp hb]; exact ⟨hS, ws, ha⟩
        have dj : ∀ b ∈ [a], b ∉ F' := fun b hb => by rw [List.mem_singleton.mp hb]; exact na
        have nS' : ¬ S' a := t1.noS dj oa a (List.mem_singleton.mpr rfl)
        have nF2 : a ∉ F2 := t1.noF dj oa a (List.mem_singleton.mpr rfl)
        have ta : Tr S H2 (a :: F') S' H' (a :: F2) := ((t1.aside (F0 := [a])).more fun b hb => by
          simp only [List.mem_append, List.mem_cons, List.not_mem_nil, or_false] at hb ⊢
          exact hb.symm).sub' fun b hb => by
          simp only [List.mem_append, List.mem_cons, List.not_mem_nil, or_false] at hb ⊢
          exact hb.symm
        have τ0 : τ[0]? = some (some (.ref a)) := hτ 0 (by decide)
        obtain ⟨y, hy⟩ : ∃ y, τ = [some (.ref a), y] := by
          match τ, lτ, τ0 with
          | [u, y], _, e => exact ⟨y, by cases e; rfl⟩
        subst hy
        refine ⟨S', [some (.lst true (T.spL w xs)), none], a :: F2, ⟨⟨.ref a, [y], a :: F2, [], rfl, by rw [List.append_nil], ⟨a, ws, F2, rfl, ha', r1, nS', rfl⟩, y, [], rfl, rfl, rfl⟩, List.nodup_cons.mpr ⟨nF2, n1⟩, s1⟩, ?_⟩
        have hz : (T.spL w xs).length < sizeLine := by rw [spL_len]; exact cs.1
        have eex : ex M (.app 0 (.k (.str w))) [0] [some (.lst true (T.spL w xs)), none] = .nx [some (.lst true (T.spL w xs ++ [.str w])), none] := by
          unfold ex
          simp [ev, hz]
        rw [eex]
        intro τ2 H3 S3 F3 t3 G3 p3
        have e0 : τ2[0]? = some (some (.ref a)) := p3 0 (by simp)
        obtain ⟨x', τ', Fa, Fb, e3, eF3, r3, y', τ'', e4, e5, eFb⟩ := G3.rel
        subst e3
        cases e0
        rw [eFb, List.append_nil] at eF3
        subst eF3
        refine if_is r3 G3.sdom (show isTy "tuple" (.lst true (T.spL w xs ++ [.str w])) = some false from rfl) rfl fun H4 k4 => ?_
        rw [if_neg Bool.false_ne_true]
        exact fin H4 S3 F3 (((same_tr k3).trans (ta.trans t3)).trans (same_tr k4)) (sdom_same k4 G3.sdom) (rp_same k4 r3) G3.nd
    · rw [if_neg hc] at h
      exact h.elim
theorem if_or {t : T} {v : V} {F : List Addr} {b1 b2 : Bool} {A B : TS} {D : Ends} (r : Rp C S H t v F) (sd : SDom S H) (e1 : isTy "list" t = some b1) (e2 : isTy "tuple" t = some b2) (hv : σ[0]? = some (some v)) (q : ∀ H', Same H H' → if (b1 || b2) = true then A D σ H' else B D σ H') : tIfS (tOr (tB (tIs C "list")) (tB (tIs C "tuple"))) A B D σ H :=
  ⟨v, hv, v, rfl, is_val r sd e1 fun H1 k1 => ⟨b1, rfl, by
    cases b1 with
    | true => exact q H1 k1
    | false => exact ⟨v, hv, v, rfl, is_val (rp_same k1 r) (sdom_same k1 sd) e2 fun H2 k2 => ⟨b2, rfl, by simpa using q H2 fun b o e => k2 b o (k1 b o e)⟩⟩⟩⟩
theorem spoil_pure2 {w : Str} {j : Nat} {M : Fns} (hM : M 0 = spoilM w j) (hK : C.K = K) (E' : L2.St → XK) (W : WX) (vs : List V) (H : Hp) (Q : VK) (E : XK) (h : spF C [true] (spoilM w (j + 1)) vs H Q E) :
    tSeq (tIfS (tOr (tB (tIs C "list")) (tB (tIs C "tuple"))) (tFor (iSeq K (tVar 0)) (gName 1) (tDrop (tCallS (spF C [true] (M 0)) E' (tCons (tVar 1) tNil)))) tNext)
      (tIfS (tB (tIs C "list")) (tS C W M [0] (.app 0 (.k (.str w)))) tNext) { nx := fun _ H' => Q .non H', rt := Q } (L2.start spN vs) H := by
  obtain ⟨S, ts, F, r, fz, nd, sd, h⟩ := h
  have hl := fz.len
  match ts, hl, r, h with
  | [t], _, ⟨v, vs', F1, F2, ev, eF, r, e2, eF2⟩, h =>
    subst ev e2
    rw [eF2, List.append_nil] at eF
    subst eF
    have hM' : spoilM w (j + 1) [t] = if (t.deep && t.short && decide (T.depth t < j + 1)) = true then .ok .non [some (t.sp w)] else .bad := rfl
    rw [hM'] at h
    by_cases hc : (t.deep && t.short && decide (T.depth t < j + 1)) = true
    · rw [if_pos hc] at h
      simp only [Bool.and_eq_true, decide_eq_true_eq] at hc
      obtain ⟨⟨c1, c2⟩, c3⟩ := hc
      have fin : ∀ H' S' F', Tr S H F S' H' F' → SDom S' H' → Rp C S' H' (t.sp w) v F' → F'.Nodup → Q .non H' := fun H' S' F' t1 s1 r1 n1 =>
        h .non H' S' F' [] (by rw [List.append_nil]; exact t1) s1 ⟨v, [], F', [], rfl, by rw [List.append_nil], r1, rfl, rfl⟩ n1 ⟨rfl, rfl⟩ List.nodup_nil fun b hb => nomatch hb
      have s0 : (L2.start spN [v])[0]? = some (some v) := rfl
      have scal : ∀ (e1 : isTy "list" t = some false) (e2 : isTy "tuple" t = some false) (e3 : t.sp w = t), _ := fun e1 e2 e3 => by
        refine if_or (σ := L2.start spN [v]) (A := tFor (iSeq K (tVar 0)) (gName 1) (tDrop (tCallS (spF C [true] (M 0)) E' (tCons (tVar 1) tNil)))) (B := tNext)
          (D := { nx := fun σ H => (tIfS (tB (tIs C "list")) (tS C W M [0] (.app 0 (.k (.str w)))) tNext) { nx := fun _ H' => Q .non H', rt := Q } σ H, rt := Q }) r sd e1 e2 s0 fun H1 k1 => ?_
        rw [if_neg (by simp)]
        refine if_is (rp_same k1 r) (sdom_same k1 sd) e1 s0 fun H2 k2 => ?_
        rw [if_neg Bool.false_ne_true]
        have k3 : Same H H2 := fun b o e => k2 b o (k1 b o e)
        exact fin H2 S F (same_tr k3) (sdom_same k3 sd) (by rw [e3]; exact rp_same k3 r) nd
      cases t with
      | scr _ => cases c1
      | dic _ => cases c1
      | exc _ _ => cases c1
      | non => exact scal rfl rfl rfl
      | bl b => exact scal rfl rfl rfl
      | int i => exact scal rfl rfl rfl
      | str z => exact scal rfl rfl rfl
      | tup xs =>
        have c1' : T.deepL xs = true := c1
        have c2' : T.shortL xs = true := c2
        have c3' : T.depthL xs + 1 < j + 1 := c3
        refine if_or (S := S) (F := F) r sd (show isTy "list" (.tup xs) = some false from rfl) (show isTy "tuple" (.tup xs) = some true from rfl) s0 fun H2 k3 => ?_
        rw [if_pos (by rfl)]
        obtain ⟨a, ws, ex, ha, rl⟩ := rp_same k3 r
        subst ex
        have own := RpL.own _ _ _ rl
        have na : a ∉ F := fun z => by
          obtain ⟨_, ys, e⟩ := own a z
          rw [ha] at e; cases e
        have at3 : ∀ H3 : Hp, (∀ b o, H2 b = some o → b ∉ F → H3 b = some o) → H3 a = some (.tup ws) := fun H3 kp => kp a _ ha na
        refine ⟨.ref a, s0, .inr ⟨a, rfl, .inr ⟨⟨ws, .of ha⟩, ?_⟩⟩⟩
        rw [hM]
        have hl := rl.length
        refine spoil_loop (S := S) (H := H2) (F := F) (vs := ws) (p := a) (tg := fun _ _ _ => True) (spoil_kids xs c1' c2' (by omega)) (fun i H3 kp hi => ⟨ws, ws[i]'(by omega), .of (at3 H3 kp), List.getElem?_eq_getElem (by omega)⟩) (fun i H3 kp hi => ⟨ws, .of (at3 H3 kp), by omega⟩) (fun i x H3 H4 kp y => ⟨y.1, y.2 ws (.of (at3 H3 kp))⟩) rl nd (sdom_same k3 sd) (Nat.lt_succ_self 1) fun τ S' H' F' t1 r1 n1 s1 hτ _ => ?_
        have rt : Rp C S' H' (.tup (T.spL w xs)) (.ref a) F' := ⟨a, ws, rfl, t1.keep a _ ha na, r1⟩
        refine if_is rt s1 (show isTy "list" (.tup (T.spL w xs)) = some false from rfl) (hτ 0 (by decide)) fun H4 k4 => ?_
        rw [if_neg Bool.false_ne_true]
        exact fin H4 S' F' (((same_tr k3).trans t1).trans (same_tr k4)) (sdom_same k4 s1) (rp_same k4 rt) n1
      | lst o xs =>
        have co : o = true ∧ T.deepL xs = true := by simpa [T.deep] using c1
        have cs : xs.length < sizeLine ∧ T.shortL xs = true := by simpa [T.short] using c2
        have c3' : T.depthL xs + 1 < j + 1 := c3
        obtain ⟨rfl, c1'⟩ := co
        refine if_or (S := S) (F := F) r sd (show isTy "list" (.lst true xs) = some true from rfl) (show isTy "tuple" (.lst true xs) = some false from rfl) s0 fun H2 k3 => ?_
        rw [if_pos (by rfl)]
        obtain ⟨a, ws, F', ex, ha, rl, hS, eF⟩ := rp_same k3 r
        subst ex eF
        obtain ⟨na, nd'⟩ := List.nodup_cons.mp nd
        have own := RpL.own _ _ _ rl
        have at3 : ∀ H3 : Hp, (∀ b o, H2 b = some o → b ∉ F' → H3 b = some o) → H3 a = some (.lst ws) := fun H3 kp => kp a _ ha na
        refine ⟨.ref a, s0, .inr ⟨a, rfl, .inl ⟨⟨ws, .of ha⟩, ?_⟩⟩⟩
        rw [hM]
        have hl := rl.length
        refine spoil_loop (S := S) (H := H2) (F := F') (vs := ws) (p := a) (tg := fun _ _ _ => True) (spoil_kids xs c1' cs.2 (by omega)) (fun i H3 kp hi => ⟨ws, ws[i]'(by omega), .of (at3 H3 kp), List.getElem?_eq_getElem (by omega)⟩) (fun i H3 kp hi => ⟨ws, .of (at3 H3 kp), by omega⟩) (fun i x H3 H4 kp y => ⟨y.1, y.2 ws (.of (at3 H3 kp))⟩) rl nd' (sdom_same k3 sd) (Nat.lt_succ_self 1) fun τ S' H' F2 t1 r1 n1 s1 hτ lτ => ?_
        have ha' : H' a = some (.lst ws) := t1.keep a _ ha na
        have oa : ∀ b ∈ [a], ¬ S b ∧ ∃ ys, H2 b = some (.lst ys) := fun b hb => by rw [List.mem_singleton.mp hb]; exact ⟨hS, ws, ha⟩
        have dj : ∀ b ∈ [a], b ∉ F' := fun b hb => by rw [List.mem_singleton.mp hb]; exact na
        have nS' : ¬ S' a := t1.noS dj oa a (List.mem_singleton.mpr rfl)
        have nF2 : a ∉ F2 := t1.noF dj oa a (List.mem_singleton.mpr rfl)
        have ta : Tr S H2 (a :: F') S' H' (a :: F2) := ((t1.aside (F0 := [a])).more fun b hb => by
          simp only [List.mem_append, List.mem_cons, List.not_mem_nil, or_false] at hb ⊢
          exact hb.symm).sub' fun b hb => by
          simp only [List.mem_append, List.mem_cons, List.not_mem_nil, or_false] at hb ⊢
          exact hb.symm
        have τ0 : τ[0]? = some (some (.ref a)) := hτ 0 (by decide)
        obtain ⟨y, hy⟩ : ∃ y, τ = [some (.ref a), y] := by
          match τ, lτ, τ0 with
          | [u, y], _, e => exact ⟨y, by cases e; rfl⟩
        subst hy
        have rt : Rp C S' H' (.lst true (T.spL w xs)) (.ref a) (a :: F2) := ⟨a, ws, F2, rfl, ha', r1, nS', rfl⟩
        refine if_is rt s1 (show isTy "list" (.lst true (T.spL w xs)) = some true from rfl) rfl fun H4 k4 => ?_
        rw [if_pos rfl]
        refine ⟨S', [some (.lst true (T.spL w xs)), none], a :: F2, ⟨⟨.ref a, [y], a :: F2, [], rfl, by rw [List.append_nil], rp_same k4 rt, y, [], rfl, rfl, rfl⟩, List.nodup_cons.mpr ⟨nF2, n1⟩, sdom_same k4 s1⟩, ?_⟩
        have hz : (T.spL w xs).length < sizeLine := by rw [spL_len]; exact cs.1
        have eex : ex M (.app 0 (.k (.str w))) [0] [some (.lst true (T.spL w xs)), none] = .nx [some (.lst true (T.spL w xs ++ [.str w])), none] := by
          unfold ex
          simp [ev, hz]
        rw [eex]
        intro τ2 H3 S3 F3 t3 G3 p3
        have e0 : τ2[0]? = some (some (.ref a)) := p3 0 (by simp)
        obtain ⟨x', τ', Fa, Fb, e3, eF3, r3, y', τ'', e4, e5, eFb⟩ := G3.rel
        subst e3
        cases e0
        rw [eFb, List.append_nil] at eF3
        subst eF3
        exact fin H3 S3 F3 (((same_tr k3).trans (ta.trans (same_tr k4))).trans t3) G3.sdom r3 G3.nd
    · rw [if_neg hc] at h
      exact h.elim
theorem spoil_ok {w : Str} {st : Stmt} {x : Str} {ps : List Str} {f : Addr} (hK : C.K = K) (hx : C.ex = none) (F0 : ClsF C.K C.cad) (hm : mg x = some (.ref f)) (F : FnF K x x st f) (hb : BindsN x x st ps) (hp : ps = [("thing" : Str)]) (hS : spoilB w x st = true) (S : FnScope spN ps (defScope st)) (h1 : mg "isinstance" = none) (h2 : mg "list" = none) (h3 : mg "tuple" = none) : ∀ j, FnAt P wo K mg base C (j + 2) (spRow x ps) (spoilM w j) := by
  subst hp
  obtain ⟨oc, od, kV, doc, pm, an, cdv, ct, osl, lk, hcd, hkp⟩ := F.ex
  have bad : ∀ ts, spoilM w 0 ts = .bad := fun ts => by
    unfold spoilM
    split
    · rw [if_neg (by simp)]
    · rfl
  unfold spoilB at hS
  simp only [Bool.and_eq_true, decide_eq_true_eq] at hS
  obtain ⟨⟨⟨⟨⟨⟨⟨g1, g2⟩, g3⟩, g4⟩, g5⟩, v1⟩, v2⟩, hS⟩ := hS
  intro j
  induction j with
  | zero => exact ⟨f, _, hm, hkp, fun _ => .all (hb kV doc pm an cdv ct), fnOk_bad bad, (fun q hq => nomatch hq), oc, od, osl, lk⟩
  | succ j ih =>
    refine ⟨f, _, hm, hkp, fun _ => .all (hb kV doc pm an cdv ct), ?_, (fun q hq => nomatch hq), oc, od, osl, lk⟩
    refine fn_of lk hcd S (fun vs H Q E h => spF_len h) fun A outer s H vs Q E hr hsp => ?_
    have c : CtxS ⟨[spRow x ["thing"]], ["isinstance", "list", "tuple"], [], [], [], []⟩ C (fun _ => spoilM w j) (j + 2) ⟨spN, defScope st, false, fun _ => true⟩ (fun cls d _ H => E cls d H) (cxOf (L2N.CX P wo) P wo K mg base spN x (defScope st) f cdv A outer s H E) :=
      ⟨⟨hK, rfl, S.nd, rfl, rfl, L2N.takes_of rfl rfl rfl rfl, hr.units, (fun b hb => by
        simp only [List.mem_cons, List.not_mem_nil, or_false] at hb
        rcases hb with e | e | e <;> subst e
        · exact h1
        · exact h2
        · exact h3), (fun x t h => by cases h), fun _ => ⟨rfl, hr⟩, F0, (fun x c h => by cases h), fun _ => hx, L2H.roomH_of hr, (fun z => by cases z), (fun k i hk => nomatch hk), fun _ k i _ hi => by
          cases k with
          | zero => cases hi; exact ih
          | succ k => cases hi⟩, passes_of rfl, rfl, rfl, (fun _ x k h => by cases h), by omega⟩
    have b1 : ("isinstance" : Str) ∈ ([("isinstance" : Str), ("list" : Str), ("tuple" : Str)] : List Str) := List.mem_cons_self
    have b2 : ("list" : Str) ∈ ([("isinstance" : Str), ("list" : Str), ("tuple" : Str)] : List Str) := List.mem_cons_of_mem _ List.mem_cons_self
    have b3 : ("tuple" : Str) ∈ ([("isinstance" : Str), ("list" : Str), ("tuple" : Str)] : List Str) := List.mem_cons_of_mem _ (List.mem_cons_of_mem _ List.mem_cons_self)
    have n0 : (0 : Nat) ∉ ([] : List Nat) := fun h => nomatch h
    split at hS
    · rename_i c1 l1 a1 p1 c2 l2 p2 hbody
      simp only [Bool.and_eq_true] at hS
      obtain ⟨⟨⟨⟨q1, q2⟩, q3⟩, q4⟩, q5⟩ := hS
      refine ⟨_, ?_, spoil_pure (M := fun _ => spoilM w j) rfl hK (fun σ cls d H2 => E cls d H2) (fun cls d _ H => E cls d H) vs H Q E hsp⟩
      rw [hbody]
      exact pss_cons (ps_if (spoil_is c.c rfl g1 b1 (.inl rfl) g2 b2 v1 q1) (pss_cons (spoil_for c rfl rfl v1 v2 g4 g5 rfl n0 q2) (pss_one (spoil_app c.c rfl v1 q3))) pss_nil)
        (pss_one (ps_if (spoil_is c.c rfl g1 b1 (.inr rfl) g3 b3 v1 q4) (pss_one (spoil_for c rfl rfl v1 v2 g4 g5 rfl n0 q5)) pss_nil))
    · rename_i c1 c2 p0 l1 p1 c3 a1 p2 hbody
      simp only [Bool.and_eq_true] at hS
      obtain ⟨⟨⟨⟨q1, q2⟩, q3⟩, q4⟩, q5⟩ := hS
      refine ⟨_, ?_, spoil_pure2 (M := fun _ => spoilM w j) rfl hK (fun σ cls d H2 => E cls d H2) (fun cls d _ H => E cls d H) vs H Q E hsp⟩
      rw [hbody]
      exact pss_cons (ps_if ((spoil_or c.c rfl g1 b1 g2 b2 g3 b3 v1 q1 q2).pt) (pss_one (spoil_for c rfl rfl v1 v2 g4 g5 rfl n0 q3)) pss_nil)
        (pss_one (ps_if (spoil_is c.c rfl g1 b1 (.inl rfl) g2 b2 v1 q4) (pss_one (spoil_app c.c rfl v1 q5)) pss_nil))
    · cases hS
end Kv

/-! Kv 24: wishes: what a text must give, read backwards. -/
namespace Kv
open PySem L2
/-- a tag: what it names is not worked at -/
inductive Cn {α : Sort _} (a : α) : Type where
  | mk : Cn a
inductive Cn2 {α β : Sort _} (a : α) (b : β) : Type where
  | mk : Cn2 a b
abbrev QX := Nat → List T → Env → Prop
/-- an expression gives Q, or an error that X takes -/
def okR {α : Type} (r : Rs α) (X : QX) (Q : α → Env → Prop) : Prop := match r with
  | .ok t g => Q t g
  | .exc c fs g => X c fs g
  | .bad => False
structure Dp where
  nx : Env → Prop := fun _ => False
  rt : T → Env → Prop := fun _ _ => False
  bk : Env → Prop := fun _ => False
  ct : Env → Prop := fun _ => False
  xc : QX := fun _ _ _ => False
def okS (r : Fl) (D : Dp) : Prop := match r with
  | .nx g => D.nx g
  | .bk g => D.bk g
  | .ct g => D.ct g
  | .rt t g => D.rt t g
  | .exc c fs g => D.xc c fs g
  | .bad => False
def we (M : Fns) (e : E) (g : Env) (X : QX) (Q : T → Env → Prop) : Prop := okR (ev M e g) X Q
def wo (M : Fns) (es : Es) (g : Env) (X : QX) (Q : List Od → Env → Prop) : Prop := okR (evO M es g) X Q
def ws (M : Fns) (s : Sm) (P : List Nat) (g : Env) (D : Dp) : Prop := okS (ex M s P g) D
@[irreducible] def wss (M : Fns) (s : Sms) (P : List Nat) (g : Env) (D : Dp) : Prop := okS (exs M s P g) D
variable {M : Fns} {P : List Nat} {g : Env} {X : QX} {D : Dp} {Q : T → Env → Prop} {QO : List Od → Env → Prop}
theorem okR_bind {α β : Type} (r : Rs α) (f : α → Env → Rs β) (X : QX) (Q : β → Env → Prop) : okR (r.bind f) X Q = okR r X fun a g => okR (f a g) X Q := by cases r <;> rfl
def isSm {α : Type} (o : Option α) (Q : α → Prop) (_ : Cn Q := .mk) : Prop := match o with
  | some a => Q a
  | none => False
@[simp] theorem isSm_some {α : Type} (a : α) (Q : α → Prop) : isSm (some a) Q = Q a := (Eq.refl (isSm (some a) Q)).trans (Eq.refl (Q a))
theorem we_k {t : T} : we M (.k t) g X Q = Q t g := rfl
theorem we_var {i : Nat} : we M (.var i) g X Q = isSm (g.getD i none) fun t => isSm (some (g.set i (some t.fz))) fun g => Q t.fz g := by
  unfold we ev
  cases g.getD i none <;> rfl
theorem we_mv {i : Nat} : we M (.mv i) g X Q = isSm (g.getD i none) fun t => isSm (some (g.set i none)) fun g => Q t g := by
  unfold we ev
  cases g.getD i none <;> rfl
theorem we_mvi {v i : Nat} : we M (.mvi v i) g X Q = isSm (match g.getD v none with | some (.lst true xs) => xs[i]? | _ => none) fun t => isSm (some (g.set v none)) fun g => Q t g := by
  unfold we ev
  cases g.getD v none with
  | none => rfl
  | some u =>
    cases u <;> first | rfl | skip
    rename_i o xs
    cases o with
    | false => rfl
    | true =>
      simp only
      cases xs[i]? <;> rfl
/-- an operator at its operands -/
def wop (o : Op) (ods : List Od) (g : Env) (Q : T → Env → Prop) : Prop := isSm (getL g ods) fun ts => isSm (opS o (ts.map T.fk)) fun t => Q t (fkV g ods)
theorem opEnd_ok {o : Op} {ods : List Od} : okR (opEnd o ods g) X Q = wop o ods g Q := by
  unfold opEnd wop
  cases getL g ods with
  | none => rfl
  | some ts =>
    simp only [isSm]
    cases opS o (ts.map T.fk) <;> rfl
theorem we_op {o : Op} {es : Es} : we M (.op o es) g X Q = wo M es g X fun ods g => wop o ods g Q := by
  unfold we ev wo
  rw [okR_bind]
  congr 1
  funext ods g
  exact opEnd_ok
theorem we_lst {es : Es} : we M (.lst es) g X Q = wo M es g X fun ods g => isSm (tmps ods) fun ts => ts.length ≤ sizeLine ∧ Q (.lst true ts) g := by
  unfold we ev wo
  rw [okR_bind]
  congr 1
  funext ods g
  cases tmps ods with
  | none => rfl
  | some ts =>
    simp only [isSm]
    by_cases h : ts.length ≤ sizeLine
    · rw [if_pos h]; simp [okR, h]
    · rw [if_neg h]; simp [okR, h]
theorem we_tup {es : Es} : we M (.tup es) g X Q = wo M es g X fun ods g => isSm (tmps ods) fun ts => ts.length ≤ sizeLine ∧ Q (.tup ts) g := by
  unfold we ev wo
  rw [okR_bind]
  congr 1
  funext ods g
  cases tmps ods with
  | none => rfl
  | some ts =>
    simp only [isSm]
    by_cases h : ts.length ≤ sizeLine
    · rw [if_pos h]; simp [okR, h]
    · rw [if_neg h]; simp [okR, h]
/-- a truth value -/
def isB (t : T) (Q : Bool → Prop) (_ : Cn Q := .mk) : Prop := match t with
  | .bl b => Q b
  | _ => False
@[simp] theorem isB_bl (b : Bool) (Q : Bool → Prop) : isB (.bl b) Q = Q b := (Eq.refl (isB (.bl b) Q)).trans (Eq.refl (Q b))
theorem we_and {a b : E} : we M (.and a b) g X Q = we M a g X fun t g => isB t fun k => if k = true then we M b g X Q else Q (.bl false) g := by
  conv => lhs; unfold we ev
  rw [okR_bind]
  congr 1
  funext t g
  cases t <;> first | rfl | skip
  rename_i k
  cases k <;> simp [isB, okR, we]
theorem we_or {a b : E} : we M (.or a b) g X Q = we M a g X fun t g => isB t fun k => if k = true then Q (.bl true) g else we M b g X Q := by
  conv => lhs; unfold we ev
  rw [okR_bind]
  congr 1
  funext t g
  cases t <;> first | rfl | skip
  rename_i k
  cases k <;> simp [isB, okR, we]
theorem we_not {a : E} : we M (.not a) g X Q = we M a g X fun t g => isB t fun k => Q (.bl (!k)) g := by
  conv => lhs; unfold we ev
  rw [okR_bind]
  congr 1
  funext t g
  cases t <;> rfl
theorem we_ite {c a b : E} : we M (.ite c a b) g X Q = we M c g X fun t g => isB t fun k => if k = true then we M a g X Q else we M b g X Q := by
  conv => lhs; unfold we ev
  rw [okR_bind]
  congr 1
  funext t g
  cases t <;> first | rfl | skip
  rename_i k
  cases k <;> simp [isB, we]
theorem wo_nil : wo M .nil g X QO = QO [] g := rfl
theorem wo_e {a : E} {r : Es} : wo M (.e a r) g X QO = we M a g X fun t g => wo M r g X fun ods g => QO (.x t :: ods) g := by
  unfold wo we
  conv => lhs; unfold evO
  rw [okR_bind]
  congr 1
  funext t g
  rw [okR_bind]
  rfl
theorem wo_v {i : Nat} {r : Es} : wo M (.v i r) g X QO = isSm (g.getD i none) fun _ => wo M r g X fun ods g => QO (.v i :: ods) g := by
  unfold wo
  conv => lhs; unfold evO
  cases g.getD i none with
  | none => rfl
  | some t =>
    simp only [isSm]
    rw [okR_bind]
    rfl
/-- a def's end -/
def okF (r : Fr) (X : Nat → List T → Env → Prop) (Q : T → Env → Prop) (_ : Cn2 X Q := .mk) : Prop := match r with
  | .ok t ios => Q t ios
  | .exc c fs ios => X c fs ios
  | .bad => False
theorem we_callB {f : Nat} {es : Es} : we M (.callB f es) g X Q = wo M es g X fun ods g => isSm (getL g ods) fun ts => okF (M f (T.fzL ts)) (fun c fs _ => T.deepL fs = true ∧ X c fs g) fun t _ => t.deep = true ∧ Q t g := by
  unfold we wo
  conv => lhs; unfold ev
  rw [okR_bind]
  congr 1
  funext ods g
  cases getL g ods with
  | none => rfl
  | some ts =>
    simp only [isSm]
    cases M f (T.fzL ts) with
    | bad => rfl
    | ok t ios =>
      by_cases h : t.deep = true <;> simp [okF, okR, h]
    | exc c fs ios =>
      by_cases h : T.deepL fs = true <;> simp [okF, okR, h]
theorem we_callF {f : Nat} {es : Es} : we M (.callF f es) g X Q = wo M es (fzG g) (fun _ _ _ => False) fun ods g1 => isSm (getL g1 ods) fun ts => okF (M f (T.fzL ts)) (fun c fs _ => T.deepL fs = true ∧ X c fs g) fun t _ => t.deep = true ∧ Q t g := by
  unfold we wo
  conv => lhs; unfold ev
  cases evO M es (fzG g) with
  | bad => rfl
  | exc c fs g1 => rfl
  | ok ods g1 =>
    show okR (match getL g1 ods with | none => Rs.bad | some ts => match M f (T.fzL ts) with | .ok t _ => if t.deep = true then Rs.ok t g else Rs.bad | .exc c fs _ => if T.deepL fs = true then Rs.exc c fs g else Rs.bad | .bad => Rs.bad) X Q = isSm (getL g1 ods) fun ts => okF (M f (T.fzL ts)) (fun c fs _ => T.deepL fs = true ∧ X c fs g) fun t _ => t.deep = true ∧ Q t g
    cases getL g1 ods with
    | none => rfl
    | some ts =>
      simp only [isSm]
      cases M f (T.fzL ts) with
      | bad => rfl
      | ok t ios =>
        by_cases h : t.deep = true <;> simp [okF, okR, h]
      | exc c fs ios =>
        by_cases h : T.deepL fs = true <;> simp [okF, okR, h]
theorem we_callK {f n : Nat} {perm : List Nat} {dfl : List T} {es : Es} : we M (.callK f n perm dfl es) g X Q = wo M es g X fun ods g => isSm (getL g ods) fun ts => okF (M f (T.fzL (perm.map fun i => (ts ++ dfl).getD i .non))) (fun c fs _ => (perm.all fun i => decide (i < (ts ++ dfl).length)) = true ∧ T.deepL fs = true ∧ X c fs g) fun t _ => (perm.all fun i => decide (i < (ts ++ dfl).length)) = true ∧ t.deep = true ∧ Q t g := by
  unfold we wo
  conv => lhs; unfold ev
  rw [okR_bind]
  congr 1
  funext ods g
  cases getL g ods with
  | none => rfl
  | some ts =>
    simp only [isSm]
    cases M f (T.fzL (perm.map fun i => (ts ++ dfl).getD i .non)) with
    | bad => rfl
    | ok t ios =>
      by_cases h : ((perm.all fun i => decide (i < (ts ++ dfl).length)) && t.deep) = true
      · have h' := Bool.and_eq_true_iff.mp h
        simp only [okF, okR, h'.1, h'.2, true_and]
        rfl
      · simp only [okF, okR, if_neg h]
        refine propext ⟨False.elim, fun z => h (Bool.and_eq_true_iff.mpr ⟨z.1, z.2.1⟩)⟩
    | exc c fs ios =>
      by_cases h : ((perm.all fun i => decide (i < (ts ++ dfl).length)) && T.deepL fs) = true
      · have h' := Bool.and_eq_true_iff.mp h
        simp only [okF, okR, h'.1, h'.2, true_and]
        rfl
      · simp only [okF, okR, if_neg h]
        refine propext ⟨False.elim, fun z => h (Bool.and_eq_true_iff.mpr ⟨z.1, z.2.1⟩)⟩
theorem we_callI {f : Nat} {es : Es} : we M (.callI f es) g X Q = wo M es g X fun ods g => isSm (ioArgs g ods) fun ts => (vars ods).Nodup ∧ okF (M f ts) (fun c fs ios => isSm (some (putIo (clrV g ods) ods ios)) fun g => X c fs g) fun t ios => isSm (some (putIo (clrV g ods) ods ios)) fun g => Q t g := by
  show _ = wo M es g X fun ods g => isSm (ioArgs g ods) fun ts => (vars ods).Nodup ∧ okF (M f ts) (fun c fs ios => X c fs (putIo (clrV g ods) ods ios)) fun t ios => Q t (putIo (clrV g ods) ods ios)
  unfold we wo
  conv => lhs; unfold ev
  rw [okR_bind]
  congr 1
  funext ods g
  cases ioArgs g ods with
  | none => rfl
  | some ts =>
    simp only [isSm]
    by_cases h : (vars ods).Nodup
    · rw [if_pos h]
      cases M f ts <;> simp [okF, okR, h]
    · rw [if_neg h]
      simp [okR, h]
theorem wss_nil : wss M .nil P g D = D.nx g := by
  unfold wss
  rfl
theorem wss_cons {s : Sm} {r : Sms} : wss M (.cons s r) P g D = ws M s P g { D with nx := fun g => wss M r P g D } := by
  unfold wss ws
  conv => lhs; unfold exs
  cases ex M s P g <;> rfl
theorem ws_asg {i : Nat} {e : E} : ws M (.asg i e) P g D = we M e g D.xc fun t g => i ∉ P ∧ i < g.length ∧ isSm (some (g.set i (some t))) fun g => D.nx g := by
  show _ = we M e g D.xc fun t g => i ∉ P ∧ i < g.length ∧ D.nx (g.set i (some t))
  unfold ws we
  conv => lhs; unfold ex
  cases ev M e g with
  | ok t g =>
    simp only [okR, put1]
    by_cases h1 : i ∈ P
    · simp [h1, okS]
    · by_cases h2 : i < g.length <;> simp [h1, h2, okS]
  | exc c fs g => rfl
  | bad => rfl
theorem ws_ex {e : E} : ws M (.ex e) P g D = we M e g D.xc fun t g => D.nx g := by
  unfold ws we
  conv => lhs; unfold ex
  cases ev M e g <;> rfl
theorem ws_ret {e : E} : ws M (.ret e) P g D = we M e g D.xc fun t g => D.rt t g := by
  unfold ws we
  conv => lhs; unfold ex
  cases ev M e g <;> rfl
theorem ws_retN : ws M .retN P g D = D.rt .non g := rfl
theorem ws_pas : ws M .pas P g D = D.nx g := rfl
theorem ws_brk : ws M .brk P g D = D.bk g := rfl
theorem ws_cnt : ws M .cnt P g D = D.ct g := rfl
theorem ws_ite {c : E} {a b : Sms} : ws M (.ite c a b) P g D = we M c g D.xc fun t g => isB t fun k => if k = true then wss M a P g D else wss M b P g D := by
  unfold ws we
  conv => lhs; unfold ex
  cases ev M c g with
  | ok t g =>
    cases t <;> first | rfl | skip
    rename_i k
    cases k <;> simp [okR, isB, wss]
  | exc c fs g => rfl
  | bad => rfl
theorem ws_seti {v : Nat} {i e : E} : ws M (.seti v i e) P g D = we M e g D.xc fun t g => isLst (g.getD v none) = true ∧ we M i g D.xc fun k g => okS (setiEnd v t k g) D := by
  unfold ws we
  conv => lhs; unfold ex
  cases ev M e g with
  | ok t g =>
    simp only [okR]
    cases h : g.getD v none with
    | none => simp [isLst, okS]
    | some u =>
      cases u <;> first | (simp [isLst, okS]; done) | skip
      simp only [isLst, true_and]
      cases ev M i g with
      | ok k g => cases k <;> rfl
      | exc c fs g => rfl
      | bad => rfl
  | exc c fs g => rfl
  | bad => rfl
theorem ws_app {v : Nat} {e : E} : ws M (.app v e) P g D = (isLst (g.getD v none) = true ∧ we M e g D.xc fun t g => okS (appEnd v t g) D) := by
  unfold ws we
  conv => lhs; unfold ex
  cases h : g.getD v none with
  | none => simp [isLst, okS]
  | some u =>
    cases u <;> first | (simp [isLst, okS]; done) | skip
    simp only [isLst, true_and]
    cases ev M e g <;> rfl

theorem ws_rais {c : Nat} {es : Es} : ws M (.rais c es) P g D = wo M es g D.xc fun ods g => isSm (tmps ods) fun ts => (flds c).length = ts.length ∧ c ≠ 9 ∧ D.xc c (T.fzL ts) g := by
  unfold ws wo
  conv => lhs; unfold ex
  cases evO M es g with
  | ok ods g =>
    simp only [okR]
    cases tmps ods with
    | none => rfl
    | some ts =>
      simp only [isSm]
      by_cases h : (flds c).length = ts.length ∧ c ≠ 9
      · rw [if_pos h]; simp only [okS, h.1, h.2, true_and]; exact propext ⟨fun z => ⟨h.2, z⟩, fun z => z.2⟩
      · rw [if_neg h]; exact propext ⟨False.elim, fun z => h ⟨z.1, z.2.1⟩⟩
  | exc c fs g => rfl
  | bad => rfl
theorem ws_tryA {body h : Sms} {c v : Nat} : ws M (.tryA body c v h) P g D = wss M body P g { D with xc := fun k fs g => k < 16 ∧ (isSub k c = true → v ∉ P ∧ v < g.length ∧ okS ((exs M h P (g.set v (some (.exc k fs)))).fin (some v)) D) ∧ (isSub k c = false → D.xc k fs g) } := by
  unfold ws wss
  conv => lhs; unfold ex
  cases exs M body P g with
  | exc k fs g =>
    simp only [okS]
    by_cases h16 : 16 ≤ k
    · rw [if_pos h16]; exact propext ⟨False.elim, fun z => absurd z.1 (by omega)⟩
    · rw [if_neg h16]
      have hk : k < 16 := by omega
      cases hs : isSub k c with
      | false => simp [hk]
      | true =>
        simp only [if_true, put1]
        by_cases h1 : v ∈ P
        · simp [h1]
        · by_cases h2 : v < g.length <;> simp [h1, h2, hk]
  | _ => rfl
/-- a loop by an invariant -/
theorem ws_loop {tg : Tg} {it : Kv.It} {body : Sms} (h : okR (itS M it g) D.xc fun p g => ∃ I : Nat → Env → Prop, I 0 g ∧ (∀ i t g, p.1[i]? = some t → I i g → ∃ g1, tg.put t (pinIt p.2 P) g = some g1 ∧ wss M body (pinIt p.2 P) g1 { D with nx := I (i + 1), ct := I (i + 1), bk := fun g => D.nx (unIt p.2 g), rt := fun t g => D.rt t (unIt p.2 g), xc := fun c fs g => D.xc c fs (unIt p.2 g) }) ∧ ∀ g, I p.1.length g → D.nx (unIt p.2 g)) : ws M (.loop tg it body) P g D := by
  unfold ws
  unfold ex
  cases e : itS M it g with
  | bad => rw [e] at h; exact h
  | exc c fs g1 => rw [e] at h; exact h
  | ok p g1 =>
    rw [e] at h
    obtain ⟨I, i0, istep, iend⟩ := h
    simp only
    have key : ∀ (n i : Nat) (g2 : Env), n + i = p.1.length → I i g2 → okS ((loopL (fun t g => tg.put t (pinIt p.2 P) g) (exs M body (pinIt p.2 P)) (p.1.drop i) g2).upd (unIt p.2)) D := by
      intro n
      induction n with
      | zero =>
        intro i g2 hn hi
        rw [List.drop_eq_nil_of_le (by omega)]
        rw [show i = p.1.length by omega] at hi
        exact iend g2 hi
      | succ n ih =>
        intro i g2 hn hi
        have hlt : i < p.1.length := by omega
        obtain ⟨g3, e3, w3⟩ := istep i _ g2 (List.getElem?_eq_getElem hlt) hi
        rw [List.drop_eq_getElem_cons hlt]
        unfold loopL
        simp only [e3]
        unfold wss at w3
        cases e4 : exs M body (pinIt p.2 P) g3 with
        | nx g4 => rw [e4] at w3; exact ih (i + 1) g4 (by omega) w3
        | ct g4 => rw [e4] at w3; exact ih (i + 1) g4 (by omega) w3
        | bk g4 => rw [e4] at w3; exact w3
        | rt t g4 => rw [e4] at w3; exact w3
        | exc c fs g4 => rw [e4] at w3; exact w3
        | bad => rw [e4] at w3; exact w3
    have := key p.1.length 0 g1 (by omega) i0
    rw [List.drop_zero] at this
    exact this
/-- a def by its body -/
theorem run_of {d : Def} {ts : List T} {X : Nat → List T → Env → Prop} {Q : T → Env → Prop} (hl : ts.length = d.io.length) (h : wss M d.body (pinsOf 0 d.io) (ts.map some ++ List.replicate (d.n - ts.length) none) { nx := fun g => Q .non (mask d.io g), rt := fun t g => Q t (mask d.io g), xc := fun c fs g => X c fs (mask d.io g) }) : okF (runDef M d ts) X Q := by
  unfold runDef
  rw [if_pos hl]
  unfold wss at h
  cases e : exs M d.body (pinsOf 0 d.io) (ts.map some ++ List.replicate (d.n - ts.length) none) <;> (rw [e] at h; exact h)
theorem okF_iff {r : Fr} {X : Nat → List T → Env → Prop} {Q Q' : T → Env → Prop} {X' : Nat → List T → Env → Prop} (h : okF r X Q) (k : ∀ t ios, Q t ios → Q' t ios) (kx : ∀ c fs ios, X c fs ios → X' c fs ios) : okF r X' Q' := by
  cases r with
  | ok t ios => exact k t ios h
  | exc c fs ios => exact kx c fs ios h
  | bad => exact h
theorem mn_of {ds : List Def} {j k : Nat} {d : Def} {ts : List T} {X : Nat → List T → Env → Prop} {Q : T → Env → Prop} (h : ds[k]? = some d) (hp : d.prim = none) (q : okF (runDef (Mn ds j) d ts) X Q) : okF (Mn ds (j + 1) k ts) X Q := by
  have e : Mn ds (j + 1) k ts = runDef (Mn ds j) d ts := by
    show (match ds[k]? with | some d => (match d.prim with | some m => m (j + 1) ts | none => runDef (Mn ds j) d ts) | none => .bad) = _
    rw [h]
    simp only [hp]
  rw [e]
  exact q

section
variable {a b : Int}
theorem bigMul_of {a b : Int} (ha : a.natAbs < 2 ^ 400000) (hb : b.natAbs < 2 ^ 400000) : bigMul a b = true := by
  unfold bigMul
  have l1 : a.natAbs.log2 ≤ 400000 := by
    by_cases h : a.natAbs = 0
    · rw [h]; exact Nat.zero_le _
    · exact Nat.le_of_lt ((Nat.log2_lt h).mpr ha)
  have l2 : b.natAbs.log2 ≤ 400000 := by
    by_cases h : b.natAbs = 0
    · rw [h]; exact Nat.zero_le _
    · exact Nat.le_of_lt ((Nat.log2_lt h).mpr hb)
  exact decide_eq_true (by omega)
theorem wop_v (o : Op) (ods : List Od) (g : Env) (Q : T → Env → Prop) : wop o ods g Q = isSm (getL g ods) fun ts => isSm (opS o (ts.map T.fk)) fun t => isSm (some (fkV g ods)) fun g => Q t g := rfl
@[simp] theorem getL_nil (g : Env) : getL g [] = some [] := rfl
@[simp] theorem getL_x (g : Env) (t : T) (os : List Od) : getL g (.x t :: os) = (getL g os).map (t :: ·) := by
  show (match some t, getL g os with | some t, some ts => some (t :: ts) | _, _ => none) = _
  cases getL g os <;> rfl
@[simp] theorem getL_v (g : Env) (i : Nat) (os : List Od) : getL g (.v i :: os) = (g.getD i none).bind fun t => (getL g os).map (t :: ·) := by
  show (match g.getD i none, getL g os with | some t, some ts => some (t :: ts) | _, _ => none) = _
  cases g.getD i none <;> cases getL g os <;> rfl
@[simp] theorem op_add : opS .add [.int a, .int b] = some (.int (a + b)) := rfl
@[simp] theorem op_sub : opS .sub [.int a, .int b] = some (.int (a - b)) := rfl
@[simp] theorem op_mul : opS .mul [.int a, .int b] = if bigMul a b then some (.int (a * b)) else none := rfl
@[simp] theorem op_fdiv : opS .fdiv [.int a, .int b] = if okDiv b then some (.int (a / b)) else none := rfl
@[simp] theorem op_mod : opS .mod [.int a, .int b] = if 0 < b then some (.int (a % b)) else none := rfl
@[simp] theorem op_pow : opS .pow [.int a, .int b] = if 0 ≤ b ∧ (Builtin.Int.intBits a : Int) * b ≤ 2 ^ 27 then some (.int (a ^ b.toNat)) else none := rfl
@[simp] theorem op_neg : opS .neg [.int a] = some (.int (-a)) := rfl
@[simp] theorem op_lt : opS .lt [.int a, .int b] = some (.bl (decide (a < b))) := rfl
@[simp] theorem op_le : opS .le [.int a, .int b] = some (.bl (decide (a ≤ b))) := rfl
@[simp] theorem op_gt : opS .gt [.int a, .int b] = some (.bl (decide (b < a))) := rfl
@[simp] theorem op_ge : opS .ge [.int a, .int b] = some (.bl (decide (b ≤ a))) := rfl
@[simp] theorem op_eq : opS .eq [.int a, .int b] = some (.bl (decide (a = b))) := rfl
@[simp] theorem op_ne : opS .ne [.int a, .int b] = some (.bl (!decide (a = b))) := rfl
@[simp] theorem op_isN (t : T) : opS .isN [t] = some (.bl t.isNon) := rfl
@[simp] theorem op_notN (t : T) : opS .notN [t] = some (.bl (!t.isNon)) := rfl
@[simp] theorem op_abs : opS .abs [.int a] = some (.int (if a < 0 then -a else a)) := rfl
@[simp] theorem op_int : opS .toInt [.int a] = some (.int a) := rfl
@[simp] theorem op_min2 : opS .min2 [.int a, .int b] = some (.int (if b < a then b else a)) := rfl
@[simp] theorem op_max2 : opS .max2 [.int a, .int b] = some (.int (if b > a then b else a)) := rfl
@[simp] theorem op_len (o : Bool) (xs : List T) : opS .len [.lst o xs] = some (.int xs.length) := rfl
@[simp] theorem op_lenT (xs : List T) : opS .len [.tup xs] = some (.int xs.length) := rfl
@[simp] theorem op_idx (o : Bool) (xs : List T) : opS .idx [.lst o xs, .int a] = L2.atI xs a := rfl
@[simp] theorem op_idxT (xs : List T) : opS .idx [.tup xs, .int a] = L2.atI xs a := rfl
@[simp] theorem op_isT (n : String) (t : T) : opS (.isT n) [t] = (isTy n t).map .bl := rfl
@[simp] theorem op_list (o : Bool) (xs : List T) : opS .toList [.lst o xs] = some (.lst true xs) := rfl
@[simp] theorem op_listT (xs : List T) : opS .toList [.tup xs] = some (.lst true xs) := rfl
@[simp] theorem op_listS (ns : List Int) : opS .toList [.scr ns] = some (.lst true (ns.map .int)) := rfl
@[simp] theorem op_tuple (o : Bool) (xs : List T) : opS .toTup [.lst o xs] = some (.tup xs) := rfl
@[simp] theorem fk_int : T.fk (.int a) = .int a := rfl
@[simp] theorem fk_bl (b : Bool) : T.fk (.bl b) = .bl b := rfl
@[simp] theorem fk_str (z : Str) : T.fk (.str z) = .str z := rfl
@[simp] theorem fk_non : T.fk .non = .non := rfl
@[simp] theorem fk_scr (ns : List Int) : T.fk (.scr ns) = .scr ns := rfl
@[simp] theorem fk_lst (o : Bool) (xs : List T) : T.fk (.lst o xs) = .lst o (T.fzL xs) := rfl
@[simp] theorem fk_tup (xs : List T) : T.fk (.tup xs) = .tup (T.fzL xs) := rfl
@[simp] theorem fz_int : T.fz (.int a) = .int a := rfl
@[simp] theorem fz_bl (b : Bool) : T.fz (.bl b) = .bl b := rfl
@[simp] theorem fz_str (z : Str) : T.fz (.str z) = .str z := rfl
@[simp] theorem fz_non : T.fz .non = .non := rfl
@[simp] theorem fz_scr (ns : List Int) : T.fz (.scr ns) = .scr ns := rfl
@[simp] theorem fz_lst (o : Bool) (xs : List T) : T.fz (.lst o xs) = .lst false (T.fzL xs) := rfl
@[simp] theorem fz_tup (xs : List T) : T.fz (.tup xs) = .tup (T.fzL xs) := rfl
@[simp] theorem fzL_nil : T.fzL [] = [] := rfl
@[simp] theorem fzL_cons (t : T) (ts : List T) : T.fzL (t :: ts) = t.fz :: T.fzL ts := rfl
@[simp] theorem fkV_nil (g : Env) : fkV g [] = g := rfl
@[simp] theorem fkV_x (g : Env) (t : T) (os : List Od) : fkV g (.x t :: os) = fkV g os := rfl
@[simp] theorem fkV_v (g : Env) (i : Nat) (os : List Od) : fkV g (.v i :: os) = fkV (g.set i ((g.getD i none).map T.fk)) os := rfl
@[simp] theorem isSm_ite {α : Type} (c : Prop) [Decidable c] (a : α) (Q : α → Prop) : isSm (if c then some a else none) Q = (c ∧ Q a) := by
  by_cases h : c
  · rw [if_pos h]; simp [isSm, h]
  · rw [if_neg h]; simp [isSm, h]
@[simp] theorem tmps_nil : tmps [] = some [] := rfl
@[simp] theorem tmps_x (t : T) (os : List Od) : tmps (.x t :: os) = (tmps os).map (t :: ·) := rfl
end
theorem natAbs_lt {a : Int} (h1 : -(2 ^ 300) ≤ a) (h2 : a ≤ 2 ^ 300) : a.natAbs < 2 ^ 400000 := by
  have h3 : a.natAbs ≤ 2 ^ 300 := by omega
  exact Nat.lt_of_le_of_lt h3 (Nat.pow_lt_pow_right (by decide) (by decide))
theorem bigS {a b : Int} (h1 : -(2 ^ 300) ≤ a) (h2 : a ≤ 2 ^ 300) (h3 : -(2 ^ 300) ≤ b) (h4 : b ≤ 2 ^ 300) : bigMul a b = true := bigMul_of (natAbs_lt h1 h2) (natAbs_lt h3 h4)
theorem okS_div {b : Int} (h1 : 0 < b) (h2 : b ≤ 2 ^ 300) : okDiv b = true := by
  unfold okDiv
  have h3 : b.natAbs < 2 ^ 301 := by omega
  have h4 : b.natAbs ≠ 0 := by omega
  have := (Nat.log2_lt h4).mpr h3
  simp only [Bool.and_eq_true, decide_eq_true_eq]
  exact ⟨h1, by omega⟩

/-- a list of its place's own -/
def ownL (o : Option T) (Q : List T → Prop) (_ : Cn Q := .mk) : Prop := match o with
  | some (.lst true xs) => Q xs
  | _ => False
@[simp] theorem ownL_some (xs : List T) (Q : List T → Prop) : ownL (some (.lst true xs)) Q = Q xs := (Eq.refl (ownL (some (.lst true xs)) Q)).trans (Eq.refl (Q xs))
@[simp] theorem isLst_lst (o : Bool) (xs : List T) : isLst (some (.lst o xs)) = true := rfl
def isI (t : T) (Q : Int → Prop) (_ : Cn Q := .mk) : Prop := match t with
  | .int i => Q i
  | _ => False
@[simp] theorem isI_int (i : Int) (Q : Int → Prop) : isI (.int i) Q = Q i := (Eq.refl (isI (.int i) Q)).trans (Eq.refl (Q i))
theorem okS_seti {v : Nat} {t k : T} {g : Env} {D : Dp} : okS (setiEnd v t k g) D = isI k fun i => ownL (g.getD v none) fun xs => isSm (L2.ixN xs.length i) fun j => isSm (some (g.set v (some (.lst true (xs.set j t))))) fun g => D.nx g := by
  show _ = isI k fun i => ownL (g.getD v none) fun xs => isSm (L2.ixN xs.length i) fun j => D.nx (g.set v (some (.lst true (xs.set j t))))
  unfold setiEnd
  cases k <;> first | rfl | skip
  simp only [isI]
  cases h : g.getD v none with
  | none => rfl
  | some u =>
    cases u <;> first | rfl | skip
    rename_i i o xs
    cases o with
    | false => rfl
    | true =>
      simp only [ownL]
      cases L2.ixN xs.length i <;> rfl
theorem okS_app {v : Nat} {t : T} {g : Env} {D : Dp} : okS (appEnd v t g) D = ownL (g.getD v none) fun xs => xs.length < sizeLine ∧ isSm (some (g.set v (some (.lst true (xs ++ [t]))))) fun g => D.nx g := by
  show _ = ownL (g.getD v none) fun xs => xs.length < sizeLine ∧ D.nx (g.set v (some (.lst true (xs ++ [t]))))
  unfold appEnd
  cases h : g.getD v none with
  | none => rfl
  | some u =>
    cases u <;> first | rfl | skip
    rename_i o xs
    cases o with
    | false => rfl
    | true =>
      simp only [ownL]
      by_cases hz : xs.length < sizeLine
      · rw [if_pos hz]; simp [okS, hz]
      · rw [if_neg hz]; simp [okS, hz]
@[simp] theorem ixN_if (n : Nat) (k : Int) : L2.ixN n k = if 0 ≤ k then (if k < n then some k.toNat else none) else if -(n : Int) ≤ k then some (k + n).toNat else none := rfl
theorem atI_nat {xs : List T} {k : Int} {t : T} (h0 : 0 ≤ k) (h : xs[k.toNat]? = some t) : L2.atI xs k = some t := by
  have hl := (List.getElem?_eq_some_iff.mp h).1
  have hk : k < xs.length := by omega
  unfold L2.atI L2.ixN
  rw [if_pos h0, if_pos hk]
  exact h
@[simp] theorem atI_0 (x : T) (xs : List T) : L2.atI (x :: xs) 0 = some x := atI_nat (by decide) rfl
@[simp] theorem atI_1 (x y : T) (xs : List T) : L2.atI (x :: y :: xs) 1 = some y := atI_nat (by decide) rfl
@[simp] theorem atI_2 (x y z : T) (xs : List T) : L2.atI (x :: y :: z :: xs) 2 = some z := atI_nat (by decide) rfl
@[simp] theorem atI_3 (x y z u : T) (xs : List T) : L2.atI (x :: y :: z :: u :: xs) 3 = some u := atI_nat (by decide) rfl
@[simp] theorem atI_4 (x y z u v : T) (xs : List T) : L2.atI (x :: y :: z :: u :: v :: xs) 4 = some v := atI_nat (by decide) rfl
end Kv

/-! Kv 25: the wishes as rules for simp; what is to be worked out first is marked. -/
namespace Kv
open PySem L2
/-- a mark that goes when it is worked out -/
def run {α : Sort _} (a : α) : α := a
@[simp] theorem run_eq {α : Sort _} (a : α) : run a = a := (Eq.refl (run a)).trans (Eq.refl a)
variable {M : Fns} {P : List Nat} {g : Env} {X : QX} {D : Dp} {Q : T → Env → Prop} {QO : List Od → Env → Prop}
@[simp ↓] theorem we_k' {x : Option T}  {t : T} : we M (.k t) (x :: g) X Q = Q t (x :: g) := by first | exact we_k | exact we_k _ _ _ _
@[simp ↓] theorem we_var' {x : Option T}  {i : Nat} : we M (.var i) (x :: g) X Q = isSm (run ((x :: g).getD i none)) fun t => isSm (run (some ((x :: g).set i (some t.fz)))) fun g => Q t.fz g := by first | exact we_var | exact we_var _ _ _ _
@[simp ↓] theorem we_mv' {x : Option T}  {i : Nat} : we M (.mv i) (x :: g) X Q = isSm (run ((x :: g).getD i none)) fun t => isSm (run (some ((x :: g).set i none))) fun g => Q t g := by first | exact we_mv | exact we_mv _ _ _ _
@[simp ↓] theorem we_op' {x : Option T}  {o : Op} {es : Es} : we M (.op o es) (x :: g) X Q = wo M es (x :: g) X fun ods g => wop o ods g Q := by first | exact we_op | exact we_op _ _ _ _
@[simp ↓] theorem we_lst' {x : Option T}  {es : Es} : we M (.lst es) (x :: g) X Q = wo M es (x :: g) X fun ods g => isSm (run (tmps ods)) fun ts => ts.length ≤ sizeLine ∧ Q (.lst true ts) g := by first | exact we_lst | exact we_lst _ _ _ _
@[simp ↓] theorem we_tup' {x : Option T}  {es : Es} : we M (.tup es) (x :: g) X Q = wo M es (x :: g) X fun ods g => isSm (run (tmps ods)) fun ts => ts.length ≤ sizeLine ∧ Q (.tup ts) g := by first | exact we_tup | exact we_tup _ _ _ _
@[simp ↓] theorem we_and' {x : Option T}  {a b : E} : we M (.and a b) (x :: g) X Q = we M a (x :: g) X fun t g => isB (run t) fun k => if k = true then we M b g X Q else Q (.bl false) g := by first | exact we_and | exact we_and _ _ _ _
@[simp ↓] theorem we_or' {x : Option T}  {a b : E} : we M (.or a b) (x :: g) X Q = we M a (x :: g) X fun t g => isB (run t) fun k => if k = true then Q (.bl true) g else we M b g X Q := by first | exact we_or | exact we_or _ _ _ _
@[simp ↓] theorem we_not' {x : Option T}  {a : E} : we M (.not a) (x :: g) X Q = we M a (x :: g) X fun t g => isB (run t) fun k => Q (.bl (!k)) g := by first | exact we_not | exact we_not _ _ _ _
@[simp ↓] theorem we_ite' {x : Option T}  {c a b : E} : we M (.ite c a b) (x :: g) X Q = we M c (x :: g) X fun t g => isB (run t) fun k => if k = true then we M a g X Q else we M b g X Q := by first | exact we_ite | exact we_ite _ _ _ _
@[simp ↓] theorem wo_nil' {x : Option T}  : wo M .nil (x :: g) X QO = QO [] (x :: g) := by first | exact wo_nil | exact wo_nil _ _ _ _
@[simp ↓] theorem wo_e' {x : Option T}  {a : E} {r : Es} : wo M (.e a r) (x :: g) X QO = we M a (x :: g) X fun t g => wo M r g X fun ods g => QO (.x t :: ods) g := by first | exact wo_e | exact wo_e _ _ _ _
@[simp ↓] theorem wo_v' {x : Option T}  {i : Nat} {r : Es} : wo M (.v i r) (x :: g) X QO = isSm (run ((x :: g).getD i none)) fun _ => wo M r (x :: g) X fun ods g => QO (.v i :: ods) g := by first | exact wo_v | exact wo_v _ _ _ _
@[simp ↓] theorem we_callB' {x : Option T}  {f : Nat} {es : Es} : we M (.callB f es) (x :: g) X Q = wo M es (x :: g) X fun ods g => isSm (run (getL g ods)) fun ts => okF (run (M f (T.fzL ts))) (fun c fs _ => T.deepL fs = true ∧ X c fs g) fun t _ => t.deep = true ∧ Q t g := by first | exact we_callB | exact we_callB _ _ _ _
@[simp] theorem fzG_nil : fzG [] = [] := rfl
@[simp] theorem fzG_cons (x : Option T) (g : Env) : fzG (x :: g) = x.map T.fz :: fzG g := rfl
@[simp ↓] theorem we_callF' {x : Option T} {f : Nat} {es : Es} : we M (.callF f es) (x :: g) X Q = isSm (run (some (fzG (x :: g)))) fun g0 => wo M es g0 (fun _ _ _ => False) fun ods g1 => isSm (run (getL g1 ods)) fun ts => okF (run (M f (T.fzL ts))) (fun c fs _ => T.deepL fs = true ∧ X c fs (x :: g)) fun t _ => t.deep = true ∧ Q t (x :: g) := we_callF
@[simp ↓] theorem we_callK' {x : Option T}  {f n : Nat} {perm : List Nat} {dfl : List T} {es : Es} : we M (.callK f n perm dfl es) (x :: g) X Q = wo M es (x :: g) X fun ods g => isSm (run (getL g ods)) fun ts => okF (run (M f (T.fzL (perm.map fun i => (ts ++ dfl).getD i .non)))) (fun c fs _ => (perm.all fun i => decide (i < (ts ++ dfl).length)) = true ∧ T.deepL fs = true ∧ X c fs g) fun t _ => (perm.all fun i => decide (i < (ts ++ dfl).length)) = true ∧ t.deep = true ∧ Q t g := by first | exact we_callK | exact we_callK _ _ _ _
@[simp ↓] theorem we_callI' {x : Option T}  {f : Nat} {es : Es} : we M (.callI f es) (x :: g) X Q = wo M es (x :: g) X fun ods g => isSm (run (ioArgs g ods)) fun ts => (vars ods).Nodup ∧ okF (run (M f ts)) (fun c fs ios => isSm (run (some (putIo (clrV g ods) ods ios))) fun g => X c fs g) fun t ios => isSm (run (some (putIo (clrV g ods) ods ios))) fun g => Q t g := by first | exact we_callI | exact we_callI _ _ _ _
@[simp ↓] theorem wss_nil' {x : Option T}  : wss M .nil P (x :: g) D = D.nx (x :: g) := by first | exact wss_nil | exact wss_nil _ _ _ _
@[simp ↓] theorem wss_cons' {x : Option T}  {s : Sm} {r : Sms} : wss M (.cons s r) P (x :: g) D = ws M s P (x :: g) { D with nx := fun g => wss M r P g D } := by first | exact wss_cons | exact wss_cons _ _ _ _
@[simp ↓] theorem ws_asg' {x : Option T}  {i : Nat} {e : E} : ws M (.asg i e) P (x :: g) D = we M e (x :: g) D.xc fun t g => i ∉ P ∧ i < g.length ∧ isSm (run (some (g.set i (some t)))) fun g => D.nx g := by first | exact ws_asg | exact ws_asg _ _ _ _
@[simp ↓] theorem ws_ex' {x : Option T}  {e : E} : ws M (.ex e) P (x :: g) D = we M e (x :: g) D.xc fun t g => D.nx g := by first | exact ws_ex | exact ws_ex _ _ _ _
@[simp ↓] theorem ws_ret' {x : Option T}  {e : E} : ws M (.ret e) P (x :: g) D = we M e (x :: g) D.xc fun t g => D.rt t g := by first | exact ws_ret | exact ws_ret _ _ _ _
@[simp ↓] theorem ws_retN' {x : Option T}  : ws M .retN P (x :: g) D = D.rt .non (x :: g) := by first | exact ws_retN | exact ws_retN _ _ _ _
@[simp ↓] theorem ws_pas' {x : Option T}  : ws M .pas P (x :: g) D = D.nx (x :: g) := by first | exact ws_pas | exact ws_pas _ _ _ _
@[simp ↓] theorem ws_brk' {x : Option T}  : ws M .brk P (x :: g) D = D.bk (x :: g) := by first | exact ws_brk | exact ws_brk _ _ _ _
@[simp ↓] theorem ws_cnt' {x : Option T}  : ws M .cnt P (x :: g) D = D.ct (x :: g) := by first | exact ws_cnt | exact ws_cnt _ _ _ _
@[simp ↓] theorem ws_ite' {x : Option T}  {c : E} {a b : Sms} : ws M (.ite c a b) P (x :: g) D = we M c (x :: g) D.xc fun t g => isB (run t) fun k => if k = true then wss M a P g D else wss M b P g D := by first | exact ws_ite | exact ws_ite _ _ _ _
@[simp ↓] theorem ws_seti' {x : Option T}  {v : Nat} {i e : E} : ws M (.seti v i e) P (x :: g) D = we M e (x :: g) D.xc fun t g => isLst (g.getD v none) = true ∧ we M i g D.xc fun k g => okS (setiEnd v t k g) D := by first | exact ws_seti | exact ws_seti _ _ _ _
@[simp ↓] theorem ws_app' {x : Option T}  {v : Nat} {e : E} : ws M (.app v e) P (x :: g) D = (isLst ((x :: g).getD v none) = true ∧ we M e (x :: g) D.xc fun t g => okS (appEnd v t g) D) := by first | exact ws_app | exact ws_app _ _ _ _
@[simp ↓] theorem ws_rais' {x : Option T}  {c : Nat} {es : Es} : ws M (.rais c es) P (x :: g) D = wo M es (x :: g) D.xc fun ods g => isSm (run (tmps ods)) fun ts => (flds c).length = ts.length ∧ c ≠ 9 ∧ D.xc c (T.fzL ts) g := by first | exact ws_rais | exact ws_rais _ _ _ _
@[simp ↓] theorem wop_v' {x : Option T} (o : Op) (ods : List Od) (Q : T → Env → Prop) : wop o ods (x :: g) Q = isSm (run (getL (x :: g) ods)) fun ts => isSm (run (opS o (ts.map T.fk))) fun t => isSm (run (some (fkV (x :: g) ods))) fun g => Q t g := by first | exact wop_v | exact wop_v _ _ _ _
@[simp ↓] theorem okS_seti' {x : Option T}  {v : Nat} {t k : T}  {D : Dp} : okS (setiEnd v t k (x :: g)) D = isI (run k) fun i => ownL (run ((x :: g).getD v none)) fun xs => isSm (run (L2.ixN xs.length i)) fun j => isSm (run (some ((x :: g).set v (some (.lst true (xs.set j t)))))) fun g => D.nx g := by first | exact okS_seti | exact okS_seti _ _ _ _
@[simp ↓] theorem okS_app' {x : Option T}  {v : Nat} {t : T}  {D : Dp} : okS (appEnd v t (x :: g)) D = ownL (run ((x :: g).getD v none)) fun xs => xs.length < sizeLine ∧ isSm (run (some ((x :: g).set v (some (.lst true (xs ++ [t])))))) fun g => D.nx g := by first | exact okS_app | exact okS_app _ _ _ _
end Kv

/-! Kv 26: wishes for loops, comprehensions, handlers. -/
namespace Kv
open PySem L2
variable {M : Fns} {P : List Nat} {g : Env} {X : QX} {D : Dp} {Q : T → Env → Prop} {QO : List Od → Env → Prop} {x : Option T}
/-- a loop at what it walks -/
@[irreducible] def wLoop (M : Fns) (tg : Tg) (body : Sms) (p : List T × Option (Nat × T)) (P : List Nat) (g : Env) (D : Dp) (_ : Cn2 body D := .mk) : Prop := okS ((loopL (fun t g => tg.put t (pinIt p.2 P) g) (exs M body (pinIt p.2 P)) p.1 g).upd (unIt p.2)) D
/-- what is walked -/
def wi (M : Fns) (it : Kv.It) (g : Env) (X : QX) (Q : List T × Option (Nat × T) → Env → Prop) : Prop := okR (itS M it g) X Q
variable {QI : List T × Option (Nat × T) → Env → Prop}
theorem wi_e {a : E} : wi M (.e a) g X QI = we M a g X fun t g => isSm (run (seqOf t.fk)) fun xs => QI (xs, none) g := by
  unfold wi we
  conv => lhs; unfold itS
  rw [okR_bind]
  congr 1
  funext t g
  simp only [run_eq]
  cases seqOf t.fk <;> rfl
theorem wi_v {i : Nat} : wi M (.v i) g X QI = isSm (run ((g.getD i none).map T.fk)) fun t => isSm (run (seqOf t)) fun xs => isSm (run (some (g.set i none))) fun g => QI (xs, some (i, t)) g := by
  simp only [run_eq]
  show _ = isSm ((g.getD i none).map T.fk) fun t => isSm (seqOf t) fun xs => QI (xs, some (i, t)) (g.set i none)
  unfold wi itS
  cases (g.getD i none).map T.fk with
  | none => rfl
  | some t =>
    simp only [isSm]
    cases seqOf t <;> rfl
theorem wi_rng {es : Es} : wi M (.rng es) g X QI = wo M es g X fun ods g => isSm (run (getL g ods)) fun ts => isSm (run (rngT ts)) fun xs => QI (xs, none) g := by
  unfold wi wo
  conv => lhs; unfold itS
  rw [okR_bind]
  congr 1
  funext ods g
  simp only [run_eq]
  cases getL g ods with
  | none => rfl
  | some ts =>
    simp only [isSm]
    cases rngT ts <;> rfl
theorem wi_enm {a : E} : wi M (.enm a) g X QI = we M a g X fun t g => isSm (run (lstOf t.fz)) fun xs => QI (enmT xs, none) g := by
  unfold wi we
  conv => lhs; unfold itS
  rw [okR_bind]
  congr 1
  funext t g
  simp only [run_eq]
  cases lstOf t.fz <;> rfl
theorem wi_rev {a : E} : wi M (.rev a) g X QI = we M a g X fun t g => isSm (run (lstOf t.fz)) fun xs => QI (xs.reverse, none) g := by
  unfold wi we
  conv => lhs; unfold itS
  rw [okR_bind]
  congr 1
  funext t g
  simp only [run_eq]
  cases lstOf t.fz <;> rfl
theorem wi_zip {es : Es} : wi M (.zip es) g X QI = wo M es g X fun ods g => isSm (run (tmps ods)) fun ts => isSm (run (zipS (T.fzL ts))) fun xs => QI (xs, none) g := by
  unfold wi wo
  conv => lhs; unfold itS
  rw [okR_bind]
  congr 1
  funext ods g
  simp only [run_eq]
  cases tmps ods with
  | none => rfl
  | some ts =>
    simp only [isSm]
    cases zipS (T.fzL ts) <;> rfl
theorem wi_revR {es : Es} : wi M (.revR es) g X QI = wo M es g X fun ods g => isSm (run (getL g ods)) fun ts => isSm (run (revT ts)) fun xs => QI (xs, none) g := by
  unfold wi wo
  conv => lhs; unfold itS
  rw [okR_bind]
  congr 1
  funext ods g
  simp only [run_eq]
  cases getL g ods with
  | none => rfl
  | some ts =>
    simp only [isSm]
    cases revT ts <;> rfl
theorem wi_rng3 {es : Es} : wi M (.rng3 es) g X QI = wo M es g X fun ods g => isSm (run (getL g ods)) fun ts => isSm (run (rng3T ts)) fun xs => QI (xs, none) g := by
  unfold wi wo
  conv => lhs; unfold itS
  rw [okR_bind]
  congr 1
  funext ods g
  simp only [run_eq]
  cases getL g ods with
  | none => rfl
  | some ts =>
    simp only [isSm]
    cases rng3T ts <;> rfl
theorem ws_loopE {tg : Tg} {it : Kv.It} {body : Sms} : ws M (.loop tg it body) P g D = wi M it g D.xc fun p g => wLoop M tg body p P g D := by
  unfold ws wi wLoop
  conv => lhs; unfold ex
  cases itS M it g <;> rfl
theorem wLoop_inv {tg : Tg} {body : Sms} {p : List T × Option (Nat × T)} (I : Nat → Env → Prop) (i0 : I 0 g) (istep : ∀ (i : Nat) (t : T) (g : Env), p.1[i]? = some t → I i g → isSm (tg.put t (pinIt p.2 P) g) fun g1 => wss M body (pinIt p.2 P) g1 { nx := I (i + 1), ct := I (i + 1), bk := fun g => D.nx (unIt p.2 g), rt := fun t g => D.rt t (unIt p.2 g), xc := fun c fs g => D.xc c fs (unIt p.2 g) }) (iend : ∀ g, I p.1.length g → D.nx (unIt p.2 g)) : wLoop M tg body p P g D := by
  unfold wLoop
  have key : ∀ (n i : Nat) (g2 : Env), n + i = p.1.length → I i g2 → okS ((loopL (fun t g => tg.put t (pinIt p.2 P) g) (exs M body (pinIt p.2 P)) (p.1.drop i) g2).upd (unIt p.2)) D := by
    intro n
    induction n with
    | zero =>
      intro i g2 hn hi
      rw [List.drop_eq_nil_of_le (by omega)]
      rw [show i = p.1.length by omega] at hi
      exact iend g2 hi
    | succ n ih =>
      intro i g2 hn hi
      have hlt : i < p.1.length := by omega
      have w3 := istep i _ g2 (List.getElem?_eq_getElem hlt) hi
      rw [List.drop_eq_getElem_cons hlt]
      unfold loopL
      cases e3 : tg.put p.1[i] (pinIt p.2 P) g2 with
      | none => rw [e3] at w3; exact w3.elim
      | some g3 =>
        rw [e3] at w3
        simp only [isSm] at w3
        unfold wss at w3
        cases e4 : exs M body (pinIt p.2 P) g3 with
        | nx g4 => simp only [e4] at w3 ⊢; exact ih (i + 1) g4 (by omega) w3
        | ct g4 => simp only [e4] at w3 ⊢; exact ih (i + 1) g4 (by omega) w3
        | bk g4 => simp only [e4] at w3 ⊢; exact w3
        | rt t g4 => simp only [e4] at w3 ⊢; exact w3
        | exc c fs g4 => simp only [e4] at w3 ⊢; exact w3
        | bad => simp only [e4] at w3; exact w3.elim
  have := key p.1.length 0 g (by omega) i0
  rw [List.drop_zero] at this
  exact this
theorem wLoop_nil {tg : Tg} {body : Sms} {q : Option (Nat × T)} : wLoop M tg body ([], q) P g D = D.nx (unIt q g) := by
  unfold wLoop
  rfl
theorem wLoop_cons {tg : Tg} {body : Sms} {q : Option (Nat × T)} {t : T} {ts : List T} : wLoop M tg body (t :: ts, q) P g D = isSm (run (tg.put t (pinIt q P) g)) fun g => wss M body (pinIt q P) g { nx := fun g => wLoop M tg body (ts, q) P g D, ct := fun g => wLoop M tg body (ts, q) P g D, bk := fun g => D.nx (unIt q g), rt := fun t g => D.rt t (unIt q g), xc := fun c fs g => D.xc c fs (unIt q g) } := by
  unfold wLoop wss
  simp only [run_eq]
  conv => lhs; unfold loopL
  cases tg.put t (pinIt q P) g with
  | none => rfl
  | some g1 =>
    simp only [isSm]
    cases exs M body (pinIt q P) g1 <;> rfl
/-- a comprehension at what it walks -/
@[irreducible] def wComp (M : Fns) (tg : Tg) (cond elt : E) (p : List T × Option (Nat × T)) (g : Env) (X : QX) (Q : T → Env → Prop) (_ : Cn2 X Q := .mk) (_ : Cn2 cond elt := .mk) : Prop := okR (if inBack p.2 tg.slots then .bad else
      (compL (fun t g => tg.put t [] g) tg.slots (fun g => (ev M cond g).bind fun b g => match b with
          | .bl true => (ev M elt g).bind fun y g => .ok (some y) g
          | .bl false => .ok none g
          | _ => .bad) p.1 [] (wipeE g tg.slots)).bind fun ys g1 => .ok (.lst true ys) (unIt p.2 (backE g g1 tg.slots))) X Q
theorem we_compE {tg : Tg} {it : Kv.It} {cond elt : E} : we M (.comp tg it cond elt) g X Q = wi M it g X fun p g => wComp M tg cond elt p g X Q := by
  unfold we wi wComp
  conv => lhs; unfold ev
  rw [okR_bind] <;> rfl
/-- every turn gives one value, the names stay -/
theorem wComp_map {tg : Tg} {elt : E} {p : List T × Option (Nat × T)} (ys : List T) (hb : inBack p.2 tg.slots = false) (hl : ys.length = p.1.length) (hz : ys.length ≤ sizeLine) (step : ∀ (i : Nat) (t y : T), p.1[i]? = some t → ys[i]? = some y → isSm (tg.put t [] (wipeE g tg.slots)) fun g1 => we M elt g1 (fun _ _ _ => False) fun y' g2 => y' = y ∧ wipeE g2 tg.slots = wipeE g tg.slots) (iend : Q (.lst true ys) (unIt p.2 (backE g (wipeE g tg.slots) tg.slots))) : wComp M tg (.k (.bl true)) elt p g X Q := by
  unfold wComp
  rw [if_neg (by rw [hb]; decide)]
  generalize hg0 : wipeE g tg.slots = g0 at *
  have key : ∀ (n i : Nat), n + i = p.1.length → compL (fun t g => tg.put t [] g) tg.slots (fun g => (ev M (.k (.bl true)) g).bind fun b g => match b with
          | .bl true => (ev M elt g).bind fun y g => .ok (some y) g
          | .bl false => .ok none g
          | _ => .bad) (p.1.drop i) (ys.take i) g0 = .ok ys g0 := by
    intro n
    induction n with
    | zero =>
      intro i hn
      rw [List.drop_eq_nil_of_le (by omega), List.take_of_length_le (by omega)]
      rfl
    | succ n ih =>
      intro i hn
      have hlt : i < p.1.length := by omega
      have hly : i < ys.length := by omega
      have w3 := step i _ _ (List.getElem?_eq_getElem hlt) (List.getElem?_eq_getElem hly)
      rw [List.drop_eq_getElem_cons hlt]
      unfold compL
      cases e3 : tg.put p.1[i] [] g0 with
      | none => rw [e3] at w3; exact w3.elim
      | some g3 =>
        rw [e3] at w3
        simp only [isSm] at w3
        unfold we at w3
        have ek : ev M (.k (.bl true)) g3 = .ok (.bl true) g3 := by unfold ev; rfl
        simp only [ek, Rs.bind]
        cases e4 : ev M elt g3 with
        | ok y g4 =>
          rw [e4] at w3
          obtain ⟨rfl, w4⟩ := w3
          simp only [w4]
          rw [if_pos (by rw [List.length_take]; omega)]
          have := ih (i + 1) (by omega)
          rw [List.take_succ_eq_append_getElem hly] at this
          exact this
        | exc c fs g4 => rw [e4] at w3; exact w3.elim
        | bad => rw [e4] at w3; exact w3.elim
  have := key p.1.length 0 (by omega)
  rw [List.drop_zero, List.take_zero] at this
  rw [this]
  exact iend
theorem okS_fin {h : Sms} {v : Option Nat} : okS ((exs M h P g).fin v) D = wss M h P g { nx := fun g => noeG (clr1 v g) = true ∧ isSm (run (some (clr1 v g))) fun g => D.nx g, bk := fun g => noeG (clr1 v g) = true ∧ isSm (run (some (clr1 v g))) fun g => D.bk g, ct := fun g => noeG (clr1 v g) = true ∧ isSm (run (some (clr1 v g))) fun g => D.ct g, rt := fun t g => t.noe = true ∧ noeG (clr1 v g) = true ∧ isSm (run (some (clr1 v g))) fun g => D.rt t g } := by
  unfold wss
  simp only [run_eq, isSm]
  cases exs M h P g with
  | rt t g1 =>
    simp only [Fl.fin, okS]
    by_cases h1 : t.noe = true <;> by_cases h2 : noeG (clr1 v g1) = true <;> simp [h1, h2]
  | nx g1 => by_cases h2 : noeG (clr1 v g1) = true <;> simp [Fl.fin, okS, h2]
  | bk g1 => by_cases h2 : noeG (clr1 v g1) = true <;> simp [Fl.fin, okS, h2]
  | ct g1 => by_cases h2 : noeG (clr1 v g1) = true <;> simp [Fl.fin, okS, h2]
  | exc c fs g1 => rfl
  | bad => rfl
theorem ws_tryB {body h : Sms} {c v : Nat} : ws M (.tryA body c v h) P g D = wss M body P g { D with xc := fun k fs g => k < 16 ∧ (isSub k c = true → v ∉ P ∧ v < g.length ∧ isSm (run (some (g.set v (some (.exc k fs))))) fun g => wss M h P g { nx := fun g => noeG (clr1 (some v) g) = true ∧ isSm (run (some (clr1 (some v) g))) fun g => D.nx g, bk := fun g => noeG (clr1 (some v) g) = true ∧ isSm (run (some (clr1 (some v) g))) fun g => D.bk g, ct := fun g => noeG (clr1 (some v) g) = true ∧ isSm (run (some (clr1 (some v) g))) fun g => D.ct g, rt := fun t g => t.noe = true ∧ noeG (clr1 (some v) g) = true ∧ isSm (run (some (clr1 (some v) g))) fun g => D.rt t g }) ∧ (isSub k c = false → D.xc k fs g) } := by
  rw [ws_tryA]
  simp only [okS_fin]
  rfl
@[simp ↓] theorem wi_e' {a : E} : wi M (.e a) (x :: g) X QI = we M a (x :: g) X fun t g => isSm (run (seqOf t.fk)) fun xs => QI (xs, none) g := wi_e
@[simp ↓] theorem wi_v' {i : Nat} : wi M (.v i) (x :: g) X QI = isSm (run (((x :: g).getD i none).map T.fk)) fun t => isSm (run (seqOf t)) fun xs => isSm (run (some ((x :: g).set i none))) fun g => QI (xs, some (i, t)) g := wi_v
@[simp ↓] theorem wi_rng' {es : Es} : wi M (.rng es) (x :: g) X QI = wo M es (x :: g) X fun ods g => isSm (run (getL g ods)) fun ts => isSm (run (rngT ts)) fun xs => QI (xs, none) g := wi_rng
@[simp ↓] theorem wi_enm' {a : E} : wi M (.enm a) (x :: g) X QI = we M a (x :: g) X fun t g => isSm (run (lstOf t.fz)) fun xs => QI (enmT xs, none) g := wi_enm
@[simp ↓] theorem wi_rev' {a : E} : wi M (.rev a) (x :: g) X QI = we M a (x :: g) X fun t g => isSm (run (lstOf t.fz)) fun xs => QI (xs.reverse, none) g := wi_rev
@[simp ↓] theorem wi_zip' {es : Es} : wi M (.zip es) (x :: g) X QI = wo M es (x :: g) X fun ods g => isSm (run (tmps ods)) fun ts => isSm (run (zipS (T.fzL ts))) fun xs => QI (xs, none) g := wi_zip
@[simp ↓] theorem wi_revR' {es : Es} : wi M (.revR es) (x :: g) X QI = wo M es (x :: g) X fun ods g => isSm (run (getL g ods)) fun ts => isSm (run (revT ts)) fun xs => QI (xs, none) g := wi_revR
@[simp] theorem lstOf_lst (o : Bool) (xs : List T) : lstOf (.lst o xs) = some xs := rfl
@[simp] theorem zipS_lst (o p : Bool) (xs ys : List T) : zipS [.lst o xs, .lst p ys] = some (zipT xs ys) := rfl
@[simp] theorem seqOf_str (z : Str) : seqOf (.str z) = some (z.cps.toList.map fun c => .str ⟨#[c]⟩) := rfl
@[simp] theorem op_ltS (a b : Str) : opS .lt [.str a, .str b] = some (.bl (ltS a b)) := rfl
@[simp] theorem op_leS (a b : Str) : opS .le [.str a, .str b] = some (.bl (!ltS b a)) := rfl
@[simp] theorem op_gtS (a b : Str) : opS .gt [.str a, .str b] = some (.bl (ltS b a)) := rfl
@[simp] theorem op_geS (a b : Str) : opS .ge [.str a, .str b] = some (.bl (!ltS a b)) := rfl
@[simp] theorem op_upper (a : Str) : opS .upper [.str a] = if a.length ≤ 5592405 then some (.str (Txt.upper a)) else none := rfl
@[simp] theorem op_strI (i : Int) : opS .str [.int i] = if i.natAbs.log2 < 1920 then some (.str (toString i)) else none := rfl
@[simp] theorem op_strS (a : Str) : opS .str [.str a] = some (.str a) := rfl
@[simp] theorem op_words (a : Str) : opS .words [.str a] = if a.length + 2 ≤ sizeLine then some (.lst true ((Txt.words a).map .str)) else none := rfl
@[simp] theorem op_split (a b : Str) : opS (.split b) [.str a] = if (b.length == 0) = false ∧ a.length + 2 ≤ sizeLine then some (.lst true ((Txt.split a b).map .str)) else none := rfl
@[simp ↓] theorem wi_rng3' {es : Es} : wi M (.rng3 es) (x :: g) X QI = wo M es (x :: g) X fun ods g => isSm (run (getL g ods)) fun ts => isSm (run (rng3T ts)) fun xs => QI (xs, none) g := wi_rng3
@[simp ↓] theorem ws_loop' {tg : Tg} {it : Kv.It} {body : Sms} : ws M (.loop tg it body) P (x :: g) D = wi M it (x :: g) D.xc fun p g => wLoop M tg body p P g D := ws_loopE
@[simp ↓] theorem we_comp' {tg : Tg} {it : Kv.It} {cond elt : E} : we M (.comp tg it cond elt) (x :: g) X Q = wi M it (x :: g) X fun p g => wComp M tg cond elt p g X Q := we_compE
@[simp ↓] theorem ws_try' {body h : Sms} {c v : Nat} : ws M (.tryA body c v h) P (x :: g) D = wss M body P (x :: g) { D with xc := fun k fs g => k < 16 ∧ (isSub k c = true → v ∉ P ∧ v < g.length ∧ isSm (run (some (g.set v (some (.exc k fs))))) fun g => wss M h P g { nx := fun g => noeG (clr1 (some v) g) = true ∧ isSm (run (some (clr1 (some v) g))) fun g => D.nx g, bk := fun g => noeG (clr1 (some v) g) = true ∧ isSm (run (some (clr1 (some v) g))) fun g => D.bk g, ct := fun g => noeG (clr1 (some v) g) = true ∧ isSm (run (some (clr1 (some v) g))) fun g => D.ct g, rt := fun t g => t.noe = true ∧ noeG (clr1 (some v) g) = true ∧ isSm (run (some (clr1 (some v) g))) fun g => D.rt t g }) ∧ (isSub k c = false → D.xc k fs g) } := ws_tryB
/-- what a taken child is -/
def kid (o : Option T) (i : Nat) : Option T := match o with
  | some (.lst true xs) => xs[i]?
  | _ => none
@[simp] theorem kid_lst (xs : List T) (i : Nat) : kid (some (.lst true xs)) i = xs[i]? := rfl
@[simp ↓] theorem we_mvi' {v i : Nat} : we M (.mvi v i) (x :: g) X Q = isSm (run (kid ((x :: g).getD v none) i)) fun t => isSm (run (some ((x :: g).set v none))) fun g => Q t g := we_mvi
@[simp] theorem put_one {i : Nat} {t : T} : Tg.put (.one i) t P g = if i ∈ P then none else if i < g.length then some (g.set i (some t)) else none := rfl
@[simp] theorem isSm_ite0 {α : Type} (c : Prop) [Decidable c] (o : Option α) (Q : α → Prop) : isSm (if c then none else o) Q = (¬ c ∧ isSm o Q) := by
  by_cases h : c
  · rw [if_pos h]; simp [isSm, h]
  · rw [if_neg h]; simp [h]
@[simp] theorem pinIt_none (P : List Nat) : pinIt none P = P := rfl
@[simp] theorem pinIt_some (P : List Nat) (i : Nat) (t : T) : pinIt (some (i, t)) P = i :: P := rfl
@[simp] theorem unIt_none (g : Env) : unIt none g = g := rfl
@[simp] theorem unIt_some (g : Env) (i : Nat) (t : T) : unIt (some (i, t)) g = g.set i (some t) := rfl
@[simp] theorem seqOf_lst (o : Bool) (xs : List T) : seqOf (.lst o xs) = some xs := rfl
@[simp] theorem seqOf_tup (xs : List T) : seqOf (.tup xs) = some xs := rfl
@[simp] theorem ioArgs_nil (g : Env) : ioArgs g [] = some [] := rfl
@[simp] theorem ioArgs_x (g : Env) (t : T) (os : List Od) : ioArgs g (.x t :: os) = (ioArgs g os).map (t.fz :: ·) := rfl
@[simp] theorem ioArgs_v (g : Env) (i : Nat) (os : List Od) : ioArgs g (.v i :: os) = (g.getD i none).bind fun t => (ioArgs g os).map (t :: ·) := by
  show (match g.getD i none, ioArgs g os with | some t, some ts => some (t :: ts) | _, _ => none) = _
  cases g.getD i none <;> cases ioArgs g os <;> rfl
@[simp] theorem clrV_nil (g : Env) : clrV g [] = g := rfl
@[simp] theorem clrV_x (g : Env) (t : T) (os : List Od) : clrV g (.x t :: os) = clrV g os := rfl
@[simp] theorem clrV_v (g : Env) (i : Nat) (os : List Od) : clrV g (.v i :: os) = clrV (g.set i none) os := rfl
@[simp] theorem putIo_v (g : Env) (i : Nat) (os : List Od) (io : Option T) (ios : Env) : putIo g (.v i :: os) (io :: ios) = putIo (g.set i io) os ios := rfl
@[simp] theorem putIo_x (g : Env) (t : T) (os : List Od) (io : Option T) (ios : Env) : putIo g (.x t :: os) (io :: ios) = putIo g os ios := rfl
@[simp] theorem putIo_nil (g : Env) (ios : Env) : putIo g [] ios = g := by cases ios <;> rfl
@[simp] theorem vars_nil : vars [] = [] := rfl
@[simp] theorem vars_v (i : Nat) (os : List Od) : vars (.v i :: os) = i :: vars os := rfl
@[simp] theorem vars_x (t : T) (os : List Od) : vars (.x t :: os) = vars os := rfl
@[simp] theorem clr1_some (i : Nat) (g : Env) : clr1 (some i) g = g.set i none := rfl
@[simp] theorem noeG_nil : noeG [] = true := rfl
@[simp] theorem noeG_none (g : Env) : noeG (none :: g) = noeG g := rfl
@[simp] theorem noeG_some (t : T) (g : Env) : noeG (some t :: g) = (t.noe && noeG g) := rfl
@[simp] theorem isTy_int (n : String) (a : Int) : isTy n (.int a) = some (n == "int") := rfl
@[simp] theorem isTy_bl (n : String) (b : Bool) : isTy n (.bl b) = some (n == "bool" || n == "int") := rfl
@[simp] theorem isTy_str (n : String) (b : Str) : isTy n (.str b) = some (n == "str") := rfl
@[simp] theorem isTy_non (n : String) : isTy n .non = some false := rfl
@[simp] theorem isTy_lst (n : String) (o : Bool) (xs : List T) : isTy n (.lst o xs) = some (n == "list") := rfl
@[simp] theorem isTy_tup (n : String) (xs : List T) : isTy n (.tup xs) = some (n == "tuple") := rfl
@[simp] theorem isNon_non : T.isNon .non = true := rfl
@[simp] theorem isNon_int (a : Int) : T.isNon (.int a) = false := rfl
@[simp] theorem isNon_bl (a : Bool) : T.isNon (.bl a) = false := rfl
@[simp] theorem isNon_str (a : Str) : T.isNon (.str a) = false := rfl
@[simp] theorem isNon_lst (o : Bool) (a : List T) : T.isNon (.lst o a) = false := rfl
@[simp] theorem isNon_tup (a : List T) : T.isNon (.tup a) = false := rfl
@[simp] theorem op_eqS (a b : Str) : opS .eq [.str a, .str b] = some (.bl (decide (a = b))) := rfl
@[simp] theorem op_eqB (a b : Bool) : opS .eq [.bl a, .bl b] = some (.bl (decide (a = b))) := rfl
@[simp] theorem op_neS (a b : Str) : opS .ne [.str a, .str b] = some (.bl (!decide (a = b))) := rfl
@[simp] theorem op_isE (cs : List Nat) (c : Nat) (fs : List T) : opS (.isE cs) [.exc c fs] = some (.bl (cs.any (isSub c))) := rfl
@[simp] theorem op_fld (f : Str) (c : Nat) (fs : List T) : opS (.fld f) [.exc c fs] = fldOf (flds c) fs f := rfl
@[simp] theorem fk_exc (c : Nat) (fs : List T) : T.fk (.exc c fs) = .exc c fs := rfl
@[simp] theorem fz_exc (c : Nat) (fs : List T) : T.fz (.exc c fs) = .exc c fs := rfl
theorem p63 : (2 : Int) ^ 63 = 9223372036854775808 := by decide
@[simp] theorem op_mulL (o : Bool) (xs : List T) (k : Int) : opS .mul [.lst o xs, .int k] = if xs.length * k.toNat ≤ sizeLine ∧ -9223372036854775808 ≤ k ∧ k < 9223372036854775808 then some (.lst true (List.replicate k.toNat xs).flatten) else none := by
  rw [← p63]
  rfl
theorem p62 : (2 : Int) ^ 62 = 4611686018427387904 := by decide
@[simp] theorem op_lrange1 (j : Int) : opS .lrange [.int j] = if -4611686018427387904 ≤ j ∧ j < 4611686018427387904 ∧ j.toNat ≤ 16777216 then some (.lst true ((List.range (j - 0).toNat).map fun (k : Nat) => .int (0 + (k : Int)))) else none := by
  rw [← p62]
  rfl
theorem rngT_1 (j : Int) : rngT [.int j] = if -4611686018427387904 ≤ j ∧ j < 4611686018427387904 then some ((List.range j.toNat).map fun (k : Nat) => .int (0 + (k : Int))) else none := by
  rw [← p62]
  rfl
theorem rngT_2 (i j : Int) : rngT [.int i, .int j] = if (-4611686018427387904 ≤ i ∧ i < 4611686018427387904) ∧ -4611686018427387904 ≤ j ∧ j < 4611686018427387904 then some ((List.range (j - i).toNat).map fun (k : Nat) => .int (i + (k : Int))) else none := by
  rw [← p62]
  rfl
@[simp] theorem deep_int (a : Int) : T.deep (.int a) = true := rfl
@[simp] theorem deep_bl (a : Bool) : T.deep (.bl a) = true := rfl
@[simp] theorem deep_str (a : Str) : T.deep (.str a) = true := rfl
@[simp] theorem deep_non : T.deep .non = true := rfl
@[simp] theorem deep_lst (o : Bool) (xs : List T) : T.deep (.lst o xs) = (o && T.deepL xs) := rfl
@[simp] theorem deep_tup (xs : List T) : T.deep (.tup xs) = T.deepL xs := rfl
@[simp] theorem deepL_nil : T.deepL [] = true := rfl
@[simp] theorem deepL_cons (t : T) (ts : List T) : T.deepL (t :: ts) = (t.deep && T.deepL ts) := rfl
@[simp] theorem noe_int (a : Int) : T.noe (.int a) = true := rfl
@[simp] theorem noe_bl (a : Bool) : T.noe (.bl a) = true := rfl
@[simp] theorem noe_str (a : Str) : T.noe (.str a) = true := rfl
@[simp] theorem noe_non : T.noe .non = true := rfl
@[simp] theorem noe_lst (o : Bool) (xs : List T) : T.noe (.lst o xs) = T.noeL xs := rfl
@[simp] theorem noe_tup (xs : List T) : T.noe (.tup xs) = T.noeL xs := rfl
@[simp] theorem noeL_nil : T.noeL [] = true := rfl
@[simp] theorem noeL_cons (t : T) (ts : List T) : T.noeL (t :: ts) = (t.noe && T.noeL ts) := rfl
@[simp] theorem okF_ok (t : T) (ios : Env) (X : QX) (Q : T → Env → Prop) : okF (.ok t ios) X Q = Q t ios := (Eq.refl (okF (.ok t ios) X Q)).trans (Eq.refl (Q t ios))
@[simp] theorem okF_exc (c : Nat) (fs : List T) (ios : Env) (X : QX) (Q : T → Env → Prop) : okF (.exc c fs ios) X Q = X c fs ios := (Eq.refl (okF (.exc c fs ios) X Q)).trans (Eq.refl (X c fs ios))
theorem okF_use {r : Fr} {X X' : QX} {Q Q' : T → Env → Prop} (h : okF r X Q) (k : ∀ t ios, Q t ios → Q' t ios) (kx : ∀ c fs ios, X c fs ios → X' c fs ios) : okF r X' Q' := okF_iff h k kx
/-- a def that lets no error out -/
theorem okF_n {r : Fr} {X : QX} {Q Q' : T → Env → Prop} (h : okF r (fun _ _ _ => False) Q) (k : ∀ t ios, Q t ios → Q' t ios) : okF r X Q' := okF_iff h k (fun _ _ _ z => z.elim)
end Kv

/-! Kv 27: trees as plain data. -/
namespace Kv
open PySem L2
structure LenOk (xs : List T) : Prop where
  lt : xs.length < 2 ^ 24
/-- frozen data at most n deep -/
def okT : Nat → T → Prop
  | _, .non => True
  | _, .bl _ => True
  | _, .int _ => True
  | _, .str _ => True
  | n + 1, .lst o xs => o = false ∧ LenOk xs ∧ ∀ t ∈ xs, okT n t
  | n + 1, .tup xs => LenOk xs ∧ ∀ t ∈ xs, okT n t
  | _, _ => False
theorem fzL_id : ∀ {xs : List T}, (∀ t ∈ xs, t.fz = t) → T.fzL xs = xs
  | [], _ => rfl
  | t :: ts, h => by
    show t.fz :: T.fzL ts = _
    rw [h t List.mem_cons_self, fzL_id fun u hu => h u (List.mem_cons_of_mem _ hu)]
theorem okT.fz : ∀ {n : Nat} {t : T}, okT n t → t.fz = t
  | n, .non, _ => rfl
  | n, .bl _, _ => rfl
  | n, .int _, _ => rfl
  | n, .str _, _ => rfl
  | 0, .lst _ _, h => h.elim
  | n + 1, .lst o xs, h => by
    have h' : o = false ∧ LenOk xs ∧ ∀ t ∈ xs, okT n t := h
    rw [h'.1]
    show T.lst false (T.fzL xs) = _
    rw [fzL_id fun t ht => okT.fz (h'.2.2 t ht)]
  | 0, .tup _, h => h.elim
  | n + 1, .tup xs, h => by
    have h' : LenOk xs ∧ ∀ t ∈ xs, okT n t := h
    show T.tup (T.fzL xs) = _
    rw [fzL_id fun t ht => okT.fz (h'.2 t ht)]
  | 0, .scr _, h => h.elim
  | _ + 1, .scr _, h => h.elim
  | 0, .dic _, h => h.elim
  | _ + 1, .dic _, h => h.elim
  | 0, .exc _ _, h => h.elim
  | _ + 1, .exc _ _, h => h.elim
theorem okT.fzL {n : Nat} {xs : List T} (h : ∀ t ∈ xs, okT n t) : T.fzL xs = xs := fzL_id fun t ht => (h t ht).fz
theorem okT.mono : ∀ {n m : Nat} {t : T}, n ≤ m → okT n t → okT m t
  | n, m, .non, _, _ => by cases m <;> trivial
  | n, m, .bl _, _, _ => by cases m <;> trivial
  | n, m, .int _, _, _ => by cases m <;> trivial
  | n, m, .str _, _, _ => by cases m <;> trivial
  | 0, _, .lst _ _, _, h => h.elim
  | n + 1, 0, .lst _ _, hm, h => by omega
  | n + 1, m + 1, .lst o xs, hm, h => ⟨h.1, h.2.1, fun t ht => okT.mono (Nat.le_of_succ_le_succ hm) (h.2.2 t ht)⟩
  | 0, _, .tup _, _, h => h.elim
  | n + 1, 0, .tup _, hm, h => by omega
  | n + 1, m + 1, .tup xs, hm, h => ⟨h.1, fun t ht => okT.mono (Nat.le_of_succ_le_succ hm) (h.2 t ht)⟩
  | 0, _, .scr _, _, h => h.elim
  | _ + 1, _, .scr _, _, h => h.elim
  | 0, _, .dic _, _, h => h.elim
  | _ + 1, _, .dic _, _, h => h.elim
  | 0, _, .exc _ _, _, h => h.elim
  | _ + 1, _, .exc _ _, _, h => h.elim
-- its own copy
mutual
def T.own : T → T
  | .lst _ xs => .lst true (T.ownL xs)
  | .tup xs => .tup xs
  | .non => .non
  | .bl b => .bl b
  | .int i => .int i
  | .str s => .str s
  | .scr ns => .scr ns
  | .dic k => .dic k
  | .exc c fs => .exc c fs
def T.ownL : List T → List T
  | [] => []
  | t :: ts => T.own t :: T.ownL ts
end
mutual
def T.nol : T → Bool
  | .lst _ _ => false
  | .tup xs => T.nolL xs
  | .non => true
  | .bl _ => true
  | .int _ => true
  | .str _ => true
  | .scr _ => false
  | .dic _ => false
  | .exc _ _ => false
def T.nolL : List T → Bool
  | [] => true
  | t :: ts => T.nol t && T.nolL ts
end
mutual
def T.cpy : T → Bool
  | .lst _ xs => T.cpyL xs
  | .tup xs => T.nolL xs
  | .non => true
  | .bl _ => true
  | .int _ => true
  | .str _ => true
  | .scr _ => false
  | .dic _ => false
  | .exc _ _ => false
def T.cpyL : List T → Bool
  | [] => true
  | t :: ts => T.cpy t && T.cpyL ts
end
mutual
theorem nol_deep : ∀ t : T, t.nol = true → t.deep = true
  | .lst _ _, h => nomatch h
  | .tup xs, h => nolL_deep xs h
  | .non, _ => rfl
  | .bl _, _ => rfl
  | .int _, _ => rfl
  | .str _, _ => rfl
  | .scr _, h => nomatch h
  | .dic _, h => nomatch h
  | .exc _ _, h => nomatch h
theorem nolL_deep : ∀ ts : List T, T.nolL ts = true → T.deepL ts = true
  | [], _ => rfl
  | t :: ts, h => by
    have h' : t.nol = true ∧ T.nolL ts = true := by simpa [T.nolL] using h
    show (t.deep && T.deepL ts) = true
    rw [nol_deep t h'.1, nolL_deep ts h'.2] <;> rfl
end
mutual
theorem own_deep : ∀ t : T, t.cpy = true → t.own.deep = true
  | .lst _ xs, h => by
    show (true && T.deepL (T.ownL xs)) = true
    rw [ownL_deep xs h] <;> rfl
  | .tup xs, h => nolL_deep xs h
  | .non, _ => rfl
  | .bl _, _ => rfl
  | .int _, _ => rfl
  | .str _, _ => rfl
  | .scr _, h => nomatch h
  | .dic _, h => nomatch h
  | .exc _ _, h => nomatch h
theorem ownL_deep : ∀ ts : List T, T.cpyL ts = true → T.deepL (T.ownL ts) = true
  | [], _ => rfl
  | t :: ts, h => by
    have h' : t.cpy = true ∧ T.cpyL ts = true := by simpa [T.cpyL] using h
    show (t.own.deep && T.deepL (T.ownL ts)) = true
    rw [own_deep t h'.1, ownL_deep ts h'.2] <;> rfl
end
mutual
theorem own_fz : ∀ t : T, t.own.fz = t.fz
  | .lst _ xs => by
    show T.lst false (T.fzL (T.ownL xs)) = T.lst false (T.fzL xs)
    rw [ownL_fz xs]
  | .tup xs => rfl
  | .non => rfl
  | .bl _ => rfl
  | .int _ => rfl
  | .str _ => rfl
  | .scr _ => rfl
  | .dic _ => rfl
  | .exc _ _ => rfl
theorem ownL_fz : ∀ ts : List T, T.fzL (T.ownL ts) = T.fzL ts
  | [] => rfl
  | t :: ts => by
    show t.own.fz :: T.fzL (T.ownL ts) = t.fz :: T.fzL ts
    rw [own_fz t, ownL_fz ts]
end
theorem ownL_map : ∀ ts : List T, T.ownL ts = ts.map T.own
  | [] => rfl
  | t :: ts => by rw [T.ownL, ownL_map ts] <;> rfl
theorem ownL_len (ts : List T) : (T.ownL ts).length = ts.length := by rw [ownL_map, List.length_map]
theorem nol_own : ∀ t : T, t.nol = true → t.own = t
  | .lst _ _, h => nomatch h
  | .tup xs, h => rfl
  | .non, _ => rfl
  | .bl _, _ => rfl
  | .int _, _ => rfl
  | .str _, _ => rfl
  | .scr _, h => nomatch h
  | .dic _, h => nomatch h
  | .exc _ _, h => nomatch h
theorem nolL_own : ∀ ts : List T, T.nolL ts = true → T.ownL ts = ts
  | [], _ => rfl
  | t :: ts, h => by
    have h' : t.nol = true ∧ T.nolL ts = true := by simpa [T.nolL] using h
    show t.own :: T.ownL ts = _
    rw [nol_own t h'.1, nolL_own ts h'.2]
theorem cpy_nol {t : T} (h : t.nol = true) : t.cpy = true := by
  cases t <;> first | exact h | rfl | (cases h; done)
theorem mem_nol : ∀ {ts : List T}, T.nolL ts = true → ∀ t ∈ ts, t.nol = true
  | t :: ts, h, u, hu => by
    have h' : t.nol = true ∧ T.nolL ts = true := by simpa [T.nolL] using h
    rcases List.mem_cons.mp hu with e | hu
    · rw [e]; exact h'.1
    · exact mem_nol h'.2 u hu
theorem mem_cpy : ∀ {ts : List T}, T.cpyL ts = true → ∀ t ∈ ts, t.cpy = true
  | t :: ts, h, u, hu => by
    have h' : t.cpy = true ∧ T.cpyL ts = true := by simpa [T.cpyL] using h
    rcases List.mem_cons.mp hu with e | hu
    · rw [e]; exact h'.1
    · exact mem_cpy h'.2 u hu
@[simp] theorem eq_self_int (a : Int) : opS .eq [.int a, .int a] = some (.bl true) := by rw [op_eq]; simp
theorem rng_get {n : Nat} {i : Nat} {t : T} (h : ((List.range n).map fun (k : Nat) => T.int (0 + (k : Int)))[i]? = some t) : t = .int i ∧ i < n := by
  rw [List.getElem?_map] at h
  by_cases hi : i < n
  · rw [List.getElem?_range hi] at h
    simp only [Option.map_some, Option.some.injEq] at h
    exact ⟨by rw [← h, Int.zero_add], hi⟩
  · rw [List.getElem?_eq_none (by rw [List.length_range]; omega)] at h
    cases h
theorem rng_get' {n : Nat} {i : Nat} {t : T} (h : (List.map (fun (k : Nat) => T.int (k : Int)) (List.range n))[i]? = some t) : t = .int i ∧ i < n := by
  rw [List.getElem?_map] at h
  by_cases hi : i < n
  · rw [List.getElem?_range hi] at h
    simp only [Option.map_some, Option.some.injEq] at h
    exact ⟨h.symm, hi⟩
  · rw [List.getElem?_eq_none (by rw [List.length_range]; omega)] at h
    cases h
theorem ints_get {cs : List Int} {i : Nat} {t : T} (h : (List.map T.int cs)[i]? = some t) : ∃ c, t = .int c ∧ c ∈ cs := by
  rw [List.getElem?_map] at h
  cases e : cs[i]? with
  | none => rw [e] at h; cases h
  | some c =>
    rw [e] at h
    simp only [Option.map_some, Option.some.injEq] at h
    exact ⟨c, h.symm, List.mem_of_getElem? e⟩
theorem atI_i {xs : List T} {i : Nat} (h : i < xs.length) : L2.atI xs (i : Int) = some (xs[i]'h) := atI_nat (by omega) (by simp [h])
end Kv

/-! Kv 28: own copies of plain data. -/
namespace Kv
open PySem L2
theorem shortL_of : ∀ {xs : List T}, (∀ t ∈ xs, t.short = true) → T.shortL xs = true
  | [], _ => rfl
  | t :: ts, h => by
    show (t.short && T.shortL ts) = true
    rw [h t List.mem_cons_self, shortL_of fun u hu => h u (List.mem_cons_of_mem _ hu)] <;> rfl
theorem noeL_of : ∀ {xs : List T}, (∀ t ∈ xs, t.noe = true) → T.noeL xs = true
  | [], _ => rfl
  | t :: ts, h => by
    show (t.noe && T.noeL ts) = true
    rw [h t List.mem_cons_self, noeL_of fun u hu => h u (List.mem_cons_of_mem _ hu)] <;> rfl
theorem depthL_of {n : Nat} : ∀ {xs : List T}, (∀ t ∈ xs, t.depth ≤ n) → T.depthL xs ≤ n
  | [], _ => Nat.zero_le _
  | t :: ts, h => by
    show max t.depth (T.depthL ts) ≤ n
    exact Nat.max_le.mpr ⟨h t List.mem_cons_self, depthL_of fun u hu => h u (List.mem_cons_of_mem _ hu)⟩
theorem mem_ownL {xs : List T} {t : T} (h : t ∈ T.ownL xs) : ∃ u ∈ xs, t = u.own := by
  rw [ownL_map] at h
  obtain ⟨u, hu, e⟩ := List.mem_map.mp h
  exact ⟨u, hu, e.symm⟩
theorem okT_facts : ∀ {n : Nat} {t : T}, okT n t → t.short = true ∧ t.noe = true ∧ t.depth ≤ n
  | n, .non, _ => ⟨rfl, rfl, Nat.zero_le _⟩
  | n, .bl _, _ => ⟨rfl, rfl, Nat.zero_le _⟩
  | n, .int _, _ => ⟨rfl, rfl, Nat.zero_le _⟩
  | n, .str _, _ => ⟨rfl, rfl, Nat.zero_le _⟩
  | 0, .lst _ _, h => h.elim
  | n + 1, .lst o xs, h => by
    obtain ⟨_, h2, h3⟩ : o = false ∧ LenOk xs ∧ ∀ t ∈ xs, okT n t := h
    refine ⟨?_, noeL_of fun t ht => (okT_facts (h3 t ht)).2.1, Nat.succ_le_succ (depthL_of fun t ht => (okT_facts (h3 t ht)).2.2)⟩
    show (decide (xs.length < sizeLine) && T.shortL xs) = true
    rw [shortL_of fun t ht => (okT_facts (h3 t ht)).1, Bool.and_true]
    exact decide_eq_true h2.lt
  | 0, .tup _, h => h.elim
  | n + 1, .tup xs, h => by
    obtain ⟨h2, h3⟩ : LenOk xs ∧ ∀ t ∈ xs, okT n t := h
    exact ⟨shortL_of fun t ht => (okT_facts (h3 t ht)).1, noeL_of fun t ht => (okT_facts (h3 t ht)).2.1, Nat.succ_le_succ (depthL_of fun t ht => (okT_facts (h3 t ht)).2.2)⟩
  | 0, .scr _, h => h.elim
  | _ + 1, .scr _, h => h.elim
  | 0, .dic _, h => h.elim
  | _ + 1, .dic _, h => h.elim
  | 0, .exc _ _, h => h.elim
  | _ + 1, .exc _ _, h => h.elim
theorem own_facts : ∀ {n : Nat} {t : T}, okT n t → t.own.short = true ∧ t.own.noe = true ∧ t.own.depth ≤ n
  | n, .non, _ => ⟨rfl, rfl, Nat.zero_le _⟩
  | n, .bl _, _ => ⟨rfl, rfl, Nat.zero_le _⟩
  | n, .int _, _ => ⟨rfl, rfl, Nat.zero_le _⟩
  | n, .str _, _ => ⟨rfl, rfl, Nat.zero_le _⟩
  | 0, .lst _ _, h => h.elim
  | n + 1, .lst o xs, h => by
    obtain ⟨_, h2, h3⟩ : o = false ∧ LenOk xs ∧ ∀ t ∈ xs, okT n t := h
    have k : ∀ t ∈ T.ownL xs, t.short = true ∧ t.noe = true ∧ t.depth ≤ n := fun t ht => by
      obtain ⟨u, hu, rfl⟩ := mem_ownL ht
      exact own_facts (h3 u hu)
    refine ⟨?_, noeL_of fun t ht => (k t ht).2.1, Nat.succ_le_succ (depthL_of fun t ht => (k t ht).2.2)⟩
    show (decide ((T.ownL xs).length < sizeLine) && T.shortL (T.ownL xs)) = true
    rw [shortL_of fun t ht => (k t ht).1, Bool.and_true, ownL_len]
    exact decide_eq_true h2.lt
  | 0, .tup _, h => h.elim
  | n + 1, .tup xs, h => okT_facts (t := .tup xs) h
  | 0, .scr _, h => h.elim
  | _ + 1, .scr _, h => h.elim
  | 0, .dic _, h => h.elim
  | _ + 1, .dic _, h => h.elim
  | 0, .exc _ _, h => h.elim
  | _ + 1, .exc _ _, h => h.elim
/-- plain data, copied by a copy -/
structure Pl (n : Nat) (t : T) : Prop where
  ok : okT n t
  cp : t.cpy = true
theorem Pl.mono {n m : Nat} {t : T} (h : Pl n t) (k : n ≤ m) : Pl m t := ⟨h.ok.mono k, h.cp⟩
theorem len_lt (xs : List T) (h : xs.length < 2 ^ 24) : LenOk xs := ⟨h⟩
@[simp] theorem own_int (a : Int) : T.own (.int a) = .int a := rfl
@[simp] theorem own_bl (a : Bool) : T.own (.bl a) = .bl a := rfl
@[simp] theorem own_str (a : Str) : T.own (.str a) = .str a := rfl
@[simp] theorem own_non : T.own .non = .non := rfl
@[simp] theorem own_tup (a : List T) : T.own (.tup a) = .tup a := rfl
@[simp] theorem own_lst (o : Bool) (a : List T) : T.own (.lst o a) = .lst true (T.ownL a) := rfl
@[simp] theorem ownL_nil : T.ownL [] = [] := rfl
@[simp] theorem ownL_cons (t : T) (a : List T) : T.ownL (t :: a) = t.own :: T.ownL a := rfl
@[simp] theorem wipeE_nil (g : Env) : wipeE g [] = g := rfl
@[simp] theorem wipeE_cons (g : Env) (i : Nat) (is : List Nat) : wipeE g (i :: is) = (wipeE g is).set i none := rfl
@[simp] theorem tgs_one (i : Nat) : Tg.slots (.one i) = [i] := rfl
@[simp] theorem inBack_none (l : List Nat) : inBack none l = false := rfl
@[simp] theorem inBack_some (i : Nat) (t : T) (l : List Nat) : inBack (some (i, t)) l = decide (i ∈ l) := rfl
@[simp] theorem fldOf_cons (n : Str) (ns : List Str) (t : T) (ts : List T) (f : Str) : fldOf (n :: ns) (t :: ts) f = if n = f then some t else fldOf ns ts f := rfl
theorem spoil_mn {w : Str} {ds : List Def} {m k : Nat} {d : Def} {t : T} (hm : 0 < m) (h : ds[k]? = some d) (hp : d.prim = some (spoilM w)) (h1 : t.deep = true) (h2 : t.short = true) (h3 : t.depth < m) : Mn ds m k [t] = .ok .non [some (t.sp w)] := by
  obtain ⟨j, rfl⟩ : ∃ j, m = j + 1 := ⟨m - 1, by omega⟩
  show (match ds[k]? with | some d => (match d.prim with | some m => m (j + 1) [t] | none => runDef (Mn ds j) d [t]) | none => .bad) = _
  rw [h]
  simp only [hp]
  show (if (t.deep && t.short && decide (t.depth < j + 1)) = true then Fr.ok .non [some (t.sp w)] else .bad) = _
  rw [h1, h2, decide_eq_true h3]
  rfl
/-- one's own value in slots: what a list of it holds -/
theorem sets_own {n : Nat} {t : T} (h : Pl n t) : t.own.deep = true ∧ t.own.fz = t := ⟨own_deep t h.cp, by rw [own_fz, h.ok.fz]⟩
end Kv

/-! Kv 29: while, names from a tuple, chosen comprehensions. -/
namespace Kv
open PySem L2
variable {M : Fns} {P : List Nat} {g : Env} {X : QX} {D : Dp} {Q : T → Env → Prop} {QO : List Od → Env → Prop} {x : Option T}
def Sms.app : Sms → Sms → Sms
  | .nil, b => b
  | .cons s r, b => .cons s (Sms.app r b)
def Sms.take : Nat → Sms → Sms
  | n + 1, .cons s r => .cons s (Sms.take n r)
  | _, _ => .nil
def Sms.drop : Nat → Sms → Sms
  | n + 1, .cons _ r => Sms.drop n r
  | _, s => s
theorem Sms.cut : ∀ (n : Nat) (b : Sms), Sms.app (Sms.take n b) (Sms.drop n b) = b
  | 0, .nil => rfl
  | 0, .cons s r => rfl
  | n + 1, .nil => rfl
  | n + 1, .cons s r => by
    show Sms.cons s (Sms.app (Sms.take n r) (Sms.drop n r)) = _
    rw [Sms.cut n r]
theorem wss_app : ∀ (a b : Sms) (g : Env) (D : Dp), wss M (Sms.app a b) P g D = wss M a P g { D with nx := fun g => wss M b P g D }
  | .nil, b, g, D => by
    show wss M b P g D = _
    rw [wss_nil]
  | .cons s r, b, g, D => by
    show wss M (.cons s (Sms.app r b)) P g D = _
    rw [wss_cons, wss_cons]
    congr 1
    simp only [wss_app r b]
/-- a body in two parts -/
theorem wss_cut (n : Nat) {b : Sms} (h : wss M (Sms.take n b) P g { D with nx := fun g => wss M (Sms.drop n b) P g D }) : wss M b P g D := by
  rw [← Sms.cut n b, wss_app]
  exact h
/-- a while -/
@[irreducible] def wWhl (M : Fns) (c : E) (body : Sms) (P : List Nat) (g : Env) (D : Dp) (_ : Cn2 body D := .mk) (_ : Cn c := .mk) : Prop := okS (whlN (ev M c) (exs M body P) fuelW g) D
theorem ws_whlE {c : E} {body : Sms} : ws M (.whl c body) P g D = wWhl M c body P g D := by
  unfold ws wWhl
  conv => lhs; unfold ex
@[simp ↓] theorem ws_whl' {c : E} {body : Sms} : ws M (.whl c body) P (x :: g) D = wWhl M c body P (x :: g) D := ws_whlE
/-- a while by an invariant and what falls -/
theorem wWhl_inv {c : E} {body : Sms} (I : Nat → Env → Prop) (n0 : Nat) (hn : n0 < fuelW) (i0 : I n0 g) (step : ∀ n g, I n g → we M c g D.xc fun t g1 => (t = .bl false ∧ D.nx g1) ∨ (t = .bl true ∧ wss M body P g1 { nx := fun g => ∃ k, k < n ∧ I k g, ct := fun g => ∃ k, k < n ∧ I k g, bk := D.nx, rt := D.rt, xc := D.xc })) : wWhl M c body P g D := by
  unfold wWhl
  have key : ∀ (f n : Nat) (g : Env), n < f → I n g → okS (whlN (ev M c) (exs M body P) f g) D := by
    intro f
    induction f with
    | zero => intro n g h; omega
    | succ f ih =>
      intro n g h hi
      have w := step n g hi
      unfold we at w
      unfold whlN
      cases e : ev M c g with
      | ok t g1 =>
        rw [e] at w
        rcases w with ⟨rfl, w⟩ | ⟨rfl, w⟩
        · exact w
        · simp only
          unfold wss at w
          cases e2 : exs M body P g1 with
          | nx g2 =>
            rw [e2] at w
            obtain ⟨k, hk, w⟩ := w
            exact ih k g2 (by omega) w
          | ct g2 =>
            rw [e2] at w
            obtain ⟨k, hk, w⟩ := w
            exact ih k g2 (by omega) w
          | bk g2 => rw [e2] at w; exact w
          | rt t g2 => rw [e2] at w; exact w
          | exc k fs g2 => rw [e2] at w; exact w
          | bad => rw [e2] at w; exact w.elim
      | exc k fs g1 => rw [e] at w; exact w
      | bad => rw [e] at w; exact w.elim
  exact key fuelW n0 g hn i0
def two2T : Option (List T) → Option (T × T)
  | some [t, u] => some (t, u)
  | _ => none
@[simp] theorem two2T_some (t u : T) : two2T (some [t, u]) = some (t, u) := rfl
theorem ws_par {i j : Nat} {es : Es} : ws M (.par i j es) P g D = wo M es g D.xc fun ods g => isSm (run (two2T (tmps ods))) fun p => i ∉ P ∧ i < g.length ∧ j ∉ P ∧ j < g.length ∧ isSm (run (some ((g.set i (some p.1)).set j (some p.2)))) fun g => D.nx g := by
  show _ = wo M es g D.xc fun ods g => isSm (two2T (tmps ods)) fun p => i ∉ P ∧ i < g.length ∧ j ∉ P ∧ j < g.length ∧ D.nx ((g.set i (some p.1)).set j (some p.2))
  unfold ws wo
  conv => lhs; unfold ex
  cases evO M es g with
  | ok ods g =>
    simp only [okR]
    cases tmps ods with
    | none => rfl
    | some ts =>
      match ts with
      | [] => rfl
      | [_] => rfl
      | _ :: _ :: _ :: _ => rfl
      | [t, u] =>
        simp only [two2T, isSm, put1]
        by_cases h1 : i ∈ P
        · simp [h1, okS]
        · by_cases h2 : i < g.length
          · by_cases h3 : j ∈ P
            · simp [h1, h2, h3, okS]
            · by_cases h4 : j < g.length <;> simp [h1, h2, h3, h4, okS]
          · simp [h1, h2, okS]
  | exc c fs g => rfl
  | bad => rfl
@[simp ↓] theorem ws_par' {i j : Nat} {es : Es} : ws M (.par i j es) P (x :: g) D = wo M es (x :: g) D.xc fun ods g => isSm (run (two2T (tmps ods))) fun p => i ∉ P ∧ i < g.length ∧ j ∉ P ∧ j < g.length ∧ isSm (run (some ((g.set i (some p.1)).set j (some p.2)))) fun g => D.nx g := ws_par
@[simp] theorem put_many {is : List Nat} {ts : List T} : Tg.put (.many is) (.tup ts) P g = putN is (T.fzL ts) P g := rfl
@[simp] theorem putN_nil : putN [] [] P g = some g := rfl
@[simp] theorem putN_cons {i : Nat} {is : List Nat} {t : T} {ts : List T} : putN (i :: is) (t :: ts) P g = (if i ∈ P then none else if i < g.length then some (g.set i (some t)) else none).bind fun g => putN is ts P g := rfl
@[simp] theorem tgs_many (is : List Nat) : Tg.slots (.many is) = is := rfl
@[simp] theorem op_lenS (s : Str) : opS .len [.str s] = if s.length ≤ sizeLine then some (.int s.length) else none := rfl
/-- a comprehension's turns, one by one -/
@[irreducible] def wCompL (M : Fns) (tg : Tg) (cond elt : E) (ts acc : List T) (q : Option (Nat × T)) (g0 g : Env) (X : QX) (Q : T → Env → Prop) (_ : Cn2 X Q := .mk) (_ : Cn2 cond elt := .mk) : Prop := okR ((compL (fun t g => tg.put t [] g) tg.slots (fun g => (ev M cond g).bind fun b g => match b with
          | .bl true => (ev M elt g).bind fun y g => .ok (some y) g
          | .bl false => .ok none g
          | _ => .bad) ts acc g).bind fun ys g1 => .ok (.lst true ys) (unIt q (backE g0 g1 tg.slots))) X Q
theorem wComp_turns {tg : Tg} {cond elt : E} {p : List T × Option (Nat × T)} : wComp M tg cond elt p g X Q = (inBack p.2 tg.slots = false ∧ wCompL M tg cond elt p.1 [] p.2 g (wipeE g tg.slots) X Q) := by
  unfold wComp wCompL
  cases h : inBack p.2 tg.slots with
  | true => rw [if_pos rfl]; exact propext ⟨False.elim, fun z => nomatch z.1⟩
  | false => rw [if_neg (by decide)]; exact propext ⟨fun z => ⟨rfl, z⟩, fun z => z.2⟩
theorem wCompL_nil {tg : Tg} {cond elt : E} {acc : List T} {q : Option (Nat × T)} {g0 : Env} : wCompL M tg cond elt [] acc q g0 g X Q = Q (.lst true acc) (unIt q (backE g0 g tg.slots)) := by
  unfold wCompL
  rfl
theorem wComp_inv {tg : Tg} {elt : E} {p : List T × Option (Nat × T)} (I : Nat → List T → Env → Prop) (hb : inBack p.2 tg.slots = false) (hz : p.1.length ≤ sizeLine) (i0 : I 0 [] (wipeE g tg.slots)) (step : ∀ (i : Nat) (t : T) (acc : List T) (g : Env), p.1[i]? = some t → I i acc g → isSm (tg.put t [] g) fun g1 => we M elt g1 (fun _ _ _ => False) fun y g2 => I (i + 1) (acc ++ [y]) (wipeE g2 tg.slots)) (iend : ∀ ys g1, I p.1.length ys g1 → Q (.lst true ys) (unIt p.2 (backE g g1 tg.slots))) : wComp M tg (.k (.bl true)) elt p g X Q := by
  rw [wComp_turns]
  refine ⟨hb, ?_⟩
  unfold wCompL
  have key : ∀ (n i : Nat) (acc : List T) (g1 : Env), n + i = p.1.length → acc.length = i → I i acc g1 → okR ((compL (fun t g => tg.put t [] g) tg.slots (fun g => (ev M (.k (.bl true)) g).bind fun b g => match b with
          | .bl true => (ev M elt g).bind fun y g => .ok (some y) g
          | .bl false => .ok none g
          | _ => .bad) (p.1.drop i) acc g1).bind fun ys g1 => .ok (.lst true ys) (unIt p.2 (backE g g1 tg.slots))) X Q := by
    intro n
    induction n with
    | zero =>
      intro i acc g1 hn ha hi
      rw [List.drop_eq_nil_of_le (by omega)]
      rw [show i = p.1.length by omega] at hi
      exact iend acc g1 hi
    | succ n ih =>
      intro i acc g1 hn ha hi
      have hlt : i < p.1.length := by omega
      have w3 := step i _ acc g1 (List.getElem?_eq_getElem hlt) hi
      rw [List.drop_eq_getElem_cons hlt]
      unfold compL
      cases e3 : tg.put p.1[i] [] g1 with
      | none => rw [e3] at w3; exact w3.elim
      | some g3 =>
        rw [e3] at w3
        simp only [isSm] at w3
        unfold we at w3
        have ek : ev M (.k (.bl true)) g3 = .ok (.bl true) g3 := by unfold ev; rfl
        simp only [ek, Rs.bind]
        cases e4 : ev M elt g3 with
        | ok y g4 =>
          rw [e4] at w3
          simp only
          rw [if_pos (by omega)]
          exact ih (i + 1) _ _ (by omega) (by rw [List.length_append, ha]; rfl) w3
        | exc c fs g4 => rw [e4] at w3; exact w3.elim
        | bad => rw [e4] at w3; exact w3.elim
  have := key p.1.length 0 [] _ (by omega) rfl i0
  rw [List.drop_zero] at this
  exact this
/-- an error out of a turn is not covered -/
theorem wCompL_cons {tg : Tg} {cond elt : E} {t : T} {ts acc : List T} {q : Option (Nat × T)} {g0 : Env} : wCompL M tg cond elt (t :: ts) acc q g0 g X Q = isSm (run (tg.put t [] g)) fun g1 => we M cond g1 (fun _ _ _ => False) fun b g2 => isB (run b) fun k => if k = true then we M elt g2 (fun _ _ _ => False) fun y g3 => acc.length < sizeLine ∧ isSm (run (some (wipeE g3 tg.slots))) fun g => wCompL M tg cond elt ts (acc ++ [y]) q g0 g X Q else isSm (run (some (wipeE g2 tg.slots))) fun g => wCompL M tg cond elt ts acc q g0 g X Q := by
  simp only [run_eq]
  unfold wCompL
  conv => lhs; unfold compL
  cases tg.put t [] g with
  | none => rfl
  | some g1 =>
    simp only [isSm]
    unfold we
    cases ev M cond g1 with
    | bad => rfl
    | exc c fs g2 => rfl
    | ok b g2 =>
      cases b <;> first | rfl | skip
      rename_i k
      cases k with
      | false => simp [Rs.bind, okR, isB, isSm]
      | true =>
        simp only [Rs.bind, okR, isB, if_true]
        cases ev M elt g2 with
        | bad => rfl
        | exc c fs g3 => rfl
        | ok y g3 =>
          simp only [isSm]
          by_cases h : acc.length < sizeLine
          · rw [if_pos h]; simp [h]
          · rw [if_neg h]; simp [h]
theorem we_slv {v : Nat} {lo hi : E} : we M (.slv v lo hi) g X Q = isSm (run (g.getD v none)) fun _ => we M lo g X fun a g => isI (run a) fun i => we M hi g X fun b g => isI (run b) fun j => wop (.slice true true) [.v v, .x (.int i), .x (.int j)] g Q := by
  simp only [run_eq]
  conv => lhs; unfold we ev
  cases g.getD v none with
  | none => rfl
  | some t =>
    simp only [isSm]
    rw [okR_bind]
    unfold we
    congr 1
    funext a g
    cases a <;> first | rfl | skip
    simp only [isI]
    rw [okR_bind]
    congr 1
    funext b g
    cases b <;> first | rfl | skip
    exact opEnd_ok
theorem we_chain {o p : Op} {a b c : E} : we M (.chain o p a b c) g X Q = we M a g X fun t g => we M b g X fun y g => isSm (run (opS o [t, y])) fun u => isB (run u) fun k => if k = true then we M c g X fun z g => isSm (run (opS p [y, z])) fun t => Q t g else Q (.bl false) g := by
  simp only [run_eq]
  conv => lhs; unfold we ev
  rw [okR_bind]
  unfold we
  congr 1
  funext t g
  rw [okR_bind]
  congr 1
  funext y g
  cases opS o [t, y] with
  | none => rfl
  | some u =>
    simp only [isSm]
    cases u <;> first | rfl | skip
    rename_i k
    cases k with
    | false => simp [isB, okR]
    | true =>
      simp only [isB, if_true]
      rw [okR_bind]
      congr 1
      funext z g
      cases opS p [y, z] <;> rfl
theorem ws_aug {v : Nat} {o : Op} {e : E} : ws M (.aug v o e) P g D = isSm (run (g.getD v none)) fun u => isI (run u) fun a => we M e g D.xc fun t g => isI (run t) fun b => isSm (run (opS o [.int a, .int b])) fun t => v ∉ P ∧ v < g.length ∧ isSm (run (some (g.set v (some t)))) fun g => D.nx g := by
  show _ = isSm (g.getD v none) fun u => isI u fun a => we M e g D.xc fun t g => isI t fun b => isSm (opS o [.int a, .int b]) fun t => v ∉ P ∧ v < g.length ∧ D.nx (g.set v (some t))
  conv => lhs; unfold ws ex
  cases g.getD v none with
  | none => rfl
  | some u =>
    simp only [isSm]
    cases u <;> first | rfl | skip
    simp only [isI]
    unfold we
    cases ev M e g with
    | bad => rfl
    | exc c fs g => rfl
    | ok t g =>
      cases t <;> first | rfl | skip
      rename_i a b
      simp only [okR, isI]
      cases opS o [.int a, .int b] with
      | none => rfl
      | some t =>
        simp only [isSm, put1]
        by_cases h1 : v ∈ P
        · simp [h1, okS]
        · by_cases h2 : v < g.length <;> simp [h1, h2, okS]
@[simp ↓] theorem we_slv' {v : Nat} {lo hi : E} : we M (.slv v lo hi) (x :: g) X Q = isSm (run ((x :: g).getD v none)) fun _ => we M lo (x :: g) X fun a g => isI (run a) fun i => we M hi g X fun b g => isI (run b) fun j => wop (.slice true true) [.v v, .x (.int i), .x (.int j)] g Q := we_slv
@[simp ↓] theorem we_chain' {o p : Op} {a b c : E} : we M (.chain o p a b c) (x :: g) X Q = we M a (x :: g) X fun t g => we M b g X fun y g => isSm (run (opS o [t, y])) fun u => isB (run u) fun k => if k = true then we M c g X fun z g => isSm (run (opS p [y, z])) fun t => Q t g else Q (.bl false) g := we_chain
@[simp ↓] theorem ws_aug' {v : Nat} {o : Op} {e : E} : ws M (.aug v o e) P (x :: g) D = isSm (run ((x :: g).getD v none)) fun u => isI (run u) fun a => we M e (x :: g) D.xc fun t g => isI (run t) fun b => isSm (run (opS o [.int a, .int b])) fun t => v ∉ P ∧ v < g.length ∧ isSm (run (some (g.set v (some t)))) fun g => D.nx g := ws_aug
@[simp] theorem op_dsp (kvs : List (Str × Sc)) : opS (.dsp kvs) [] = some (.dic kvs) := rfl
@[simp] theorem op_dget (kvs : List (Str × Sc)) (k : Str) : opS .dget [.dic kvs, .str k] = (dlk kvs k).map Sc.t := rfl
@[simp] theorem fk_dic (kvs : List (Str × Sc)) : T.fk (.dic kvs) = .dic kvs := rfl
@[simp] theorem fz_dic (kvs : List (Str × Sc)) : T.fz (.dic kvs) = .dic kvs := rfl
@[simp] theorem noe_dic (kvs : List (Str × Sc)) : T.noe (.dic kvs) = true := rfl
@[simp] theorem sct_i (i : Int) : Sc.t (.i i) = .int i := rfl
@[simp] theorem sct_s (z : Str) : Sc.t (.s z) = .str z := rfl
@[simp] theorem op_intB (b : Bool) : opS .toInt [.bl b] = some (.int (if b then 1 else 0)) := rfl
@[simp] theorem op_lrange2 (i j : Int) : opS .lrange [.int i, .int j] = if (-4611686018427387904 ≤ i ∧ i < 4611686018427387904) ∧ (-4611686018427387904 ≤ j ∧ j < 4611686018427387904) ∧ (j - i).toNat ≤ 16777216 then some (.lst true ((List.range (j - i).toNat).map fun (k : Nat) => .int (i + (k : Int)))) else none := by
  rw [← p62]
  rfl
@[simp] theorem op_addL (o p : Bool) (a b : List T) : opS .add [.lst o a, .lst p b] = if a.length + b.length ≤ sizeLine then some (.lst true (a ++ b)) else none := rfl
@[simp] theorem op_sl2 (o : Bool) (xs : List T) (i j : Int) : opS (.slice true true) [.lst o xs, .int i, .int j] = some (.lst true (cutT xs (some i) (some j))) := rfl
@[simp] theorem op_slH (o : Bool) (xs : List T) (j : Int) : opS (.slice false true) [.lst o xs, .int j] = some (.lst true (cutT xs none (some j))) := rfl
theorem ws_tryMB {body h : Sms} {cs : List Nat} : ws M (.tryM body cs h) P g D = wss M body P g { D with xc := fun k fs g => k < 16 ∧ (cs.any (isSub k) = true → wss M h P g { nx := fun g => noeG g = true ∧ D.nx g, bk := fun g => noeG g = true ∧ D.bk g, ct := fun g => noeG g = true ∧ D.ct g, rt := fun t g => t.noe = true ∧ noeG g = true ∧ D.rt t g }) ∧ (cs.any (isSub k) = false → D.xc k fs g) } := by
  unfold ws wss
  conv => lhs; unfold ex
  cases exs M body P g with
  | exc k fs g =>
    simp only [okS]
    by_cases h16 : 16 ≤ k
    · rw [if_pos h16]; exact propext ⟨False.elim, fun z => absurd z.1 (by omega)⟩
    · rw [if_neg h16]
      have hk : k < 16 := by omega
      cases hs : cs.any (isSub k) with
      | false => simp [hk, okS]
      | true =>
        have := okS_fin (M := M) (P := P) (g := g) (D := D) (h := h) (v := none)
        unfold wss at this
        simp only [if_true, hk, true_and, true_implies]
        exact propext ⟨fun z => ⟨Eq.mp this z, fun z => by cases z⟩, fun z => Eq.mpr this z.1⟩
  | _ => rfl
@[simp ↓] theorem ws_tryM' {body h : Sms} {cs : List Nat} : ws M (.tryM body cs h) P (x :: g) D = wss M body P (x :: g) { D with xc := fun k fs g => k < 16 ∧ (cs.any (isSub k) = true → wss M h P g { nx := fun g => noeG g = true ∧ D.nx g, bk := fun g => noeG g = true ∧ D.bk g, ct := fun g => noeG g = true ∧ D.ct g, rt := fun t g => t.noe = true ∧ noeG g = true ∧ D.rt t g }) ∧ (cs.any (isSub k) = false → D.xc k fs g) } := ws_tryMB
@[simp] theorem truT_int (n : Int) : truT (.int n) = some (n != 0) := rfl
theorem ws_unp {is : List Nat} {e : E} : ws M (.unp is e) P g D = we M e g D.xc fun t g => isSm (Tg.put (.many is) t P g) fun g => D.nx g := by
  unfold ws we
  conv => lhs; unfold ex
  cases ev M e g with
  | bad => rfl
  | exc c fs g1 => rfl
  | ok t g1 =>
    show okS (match Tg.put (.many is) t P g1 with | some g => Fl.nx g | none => Fl.bad) D = isSm (Tg.put (.many is) t P g1) fun g => D.nx g
    cases Tg.put (.many is) t P g1 <;> rfl
@[simp ↓] theorem ws_unp' {is : List Nat} {e : E} : ws M (.unp is e) P (x :: g) D = we M e (x :: g) D.xc fun t g => isSm (run (Tg.put (.many is) t P g)) fun g => D.nx g := ws_unp
@[simp] theorem op_cntT (o : Bool) (xs : List T) : opS .cntT [.lst o xs] = (blsT xs).map fun bs => .int (bs.count true : Nat) := by
  show (blsT xs).bind (fun bs => some (T.int (bs.count true : Nat))) = _
  cases blsT xs <;> rfl
@[simp] theorem blsT_nil : blsT [] = some [] := rfl
@[simp] theorem blsT_cons (b : Bool) (xs : List T) : blsT (.bl b :: xs) = (blsT xs).map (b :: ·) := rfl
@[simp] theorem op_tru (t : T) : opS .truL [t] = (truT t).map .bl := rfl
@[simp] theorem truT_lst (o : Bool) (xs : List T) : truT (.lst o xs) = some (!xs.isEmpty) := rfl
@[simp] theorem truT_bl (b : Bool) : truT (.bl b) = some b := rfl
@[simp] theorem op_sumL (o : Bool) (xs : List T) : opS .sumL [.lst o xs] = (intsT xs).bind fun ns => some (.int ns.sum) := rfl
@[simp] theorem op_anyL (o : Bool) (xs : List T) : opS .anyL [.lst o xs] = (blsT xs).bind fun bs => some (.bl (bs.any id)) := rfl
@[simp] theorem op_allL (o : Bool) (xs : List T) : opS .allL [.lst o xs] = (blsT xs).bind fun bs => some (.bl (bs.all id)) := rfl
@[simp] theorem op_inn (a b : T) : opS .inn [a, b] = (inS a b).map .bl := rfl
@[simp] theorem op_notin (a b : T) : opS .notin [a, b] = (inS a b).map fun x => .bl (!x) := rfl
@[simp] theorem op_sl0 (o : Bool) (xs : List T) : opS (.slice false false) [.lst o xs] = some (.lst true (cutT xs none none)) := rfl
@[simp] theorem op_slL (o : Bool) (xs : List T) (i : Int) : opS (.slice true false) [.lst o xs, .int i] = some (.lst true (cutT xs (some i) none)) := rfl
theorem intsT_map (ns : List Int) : intsT (ns.map .int) = some ns := by
  induction ns with
  | nil => rfl
  | cons n ns ih =>
    show (intsT (ns.map .int)).map (n :: ·) = _
    rw [ih]
    rfl
theorem blsT_map (ns : List Bool) : blsT (ns.map .bl) = some ns := by
  induction ns with
  | nil => rfl
  | cons n ns ih =>
    show (blsT (ns.map .bl)).map (n :: ·) = _
    rw [ih]
    rfl
theorem okR_iff' {e : E} {g : Env} {Q Q' : T → Env → Prop} (h : we M e g (fun _ _ _ => False) Q) (k : ∀ t g, Q t g → Q' t g) : we M e g (fun _ _ _ => False) Q' := by
  unfold we at h ⊢
  cases e4 : ev M e g with
  | ok t g1 => rw [e4] at h; exact k t g1 h
  | exc c fs g1 => rw [e4] at h; exact h.elim
  | bad => rw [e4] at h; exact h.elim
/-- a chosen comprehension by an invariant -/
theorem wComp_inc {tg : Tg} {cond elt : E} {p : List T × Option (Nat × T)} (I : Nat → List T → Env → Prop) (hb : inBack p.2 tg.slots = false) (hz : p.1.length ≤ sizeLine) (i0 : I 0 [] (wipeE g tg.slots)) (step : ∀ (i : Nat) (t : T) (acc : List T) (g : Env), p.1[i]? = some t → I i acc g → isSm (tg.put t [] g) fun g1 => we M cond g1 (fun _ _ _ => False) fun b g2 => isB (run b) fun k => if k = true then we M elt g2 (fun _ _ _ => False) fun y g3 => I (i + 1) (acc ++ [y]) (wipeE g3 tg.slots) else I (i + 1) acc (wipeE g2 tg.slots)) (iend : ∀ ys g1, I p.1.length ys g1 → Q (.lst true ys) (unIt p.2 (backE g g1 tg.slots))) : wComp M tg cond elt p g X Q := by
  rw [wComp_turns]
  refine ⟨hb, ?_⟩
  have key : ∀ (n i : Nat) (acc : List T) (g1 : Env), n + i = p.1.length → acc.length ≤ i → I i acc g1 → wCompL M tg cond elt (p.1.drop i) acc p.2 g g1 X Q := by
    intro n
    induction n with
    | zero =>
      intro i acc g1 hn ha hi
      rw [List.drop_eq_nil_of_le (by omega), wCompL_nil]
      rw [show i = p.1.length by omega] at hi
      exact iend acc g1 hi
    | succ n ih =>
      intro i acc g1 hn ha hi
      have hlt : i < p.1.length := by omega
      have w3 := step i _ acc g1 (List.getElem?_eq_getElem hlt) hi
      rw [List.drop_eq_getElem_cons hlt, wCompL_cons]
      simp only [run_eq] at w3 ⊢
      cases e3 : tg.put p.1[i] [] g1 with
      | none => rw [e3] at w3; exact w3.elim
      | some g3 =>
        rw [e3] at w3
        simp only [isSm] at w3 ⊢
        refine okR_iff' w3 fun b g4 w4 => ?_
        cases b <;> first | exact w4.elim | skip
        rename_i k
        simp only [run_eq, isB_bl] at w4 ⊢
        cases k with
        | false =>
          rw [if_neg (by decide)] at w4 ⊢
          exact ih (i + 1) acc _ (by omega) (by omega) w4
        | true =>
          rw [if_pos rfl] at w4 ⊢
          refine okR_iff' w4 fun y g5 w5 => ⟨by omega, ih (i + 1) _ _ (by omega) (by rw [List.length_append]; simp; omega) w5⟩
  have := key p.1.length 0 [] _ (by omega) (Nat.le_refl _) i0
  rw [List.drop_zero] at this
  exact this
theorem we_mtB {o : Op} {v : Nat} {b : E} : we M (.mtB o v b) g X Q = (isLst (run (g.getD v none)) = true ∧ we M b g X fun y g => wop o [.v v, .x y] g Q) := by
  show _ = (isLst (g.getD v none) = true ∧ we M b g X fun y g => wop o [.v v, .x y] g Q)
  conv => lhs; unfold we ev
  by_cases h : isLst (g.getD v none) = true
  · rw [if_pos h, okR_bind]
    simp only [opEnd_ok]
    unfold we
    exact propext ⟨fun z => ⟨h, z⟩, fun z => z.2⟩
  · rw [if_neg h]; exact propext ⟨False.elim, fun z => absurd z.1 h⟩
@[simp ↓] theorem we_mtB' {o : Op} {v : Nat} {b : E} : we M (.mtB o v b) (x :: g) X Q = (isLst (run ((x :: g).getD v none)) = true ∧ we M b (x :: g) X fun y g => wop o [.v v, .x y] g Q) := we_mtB
/-- a number in a tree -/
def getIL (o : Option T) (k : Int) : Option Int := match o with
  | some (.lst _ xs) => match L2.atI xs k with
    | some (.int a) => some a
    | _ => none
  | _ => none
@[simp] theorem getI_eq (v : Nat) (k : Int) (x : Option T) (g : Env) : getI v k (x :: g) = getIL (run ((x :: g).getD v none)) k := rfl
theorem getIL_of {o : Bool} {xs : List T} {k a : Int} (h : L2.atI xs k = some (.int a)) : getIL (some (.lst o xs)) k = some a := by
  unfold getIL
  simp only [h]
theorem ws_augi {v : Nat} {i e : E} {o : Op} : ws M (.augi v i o e) P g D = (isLst (run (g.getD v none)) = true ∧ we M i g D.xc fun t g => isI (run t) fun k => isSm (run (getI v k g)) fun a => we M e g D.xc fun t g => okS (augEnd v o k a t g) D) := by
  show _ = (isLst (g.getD v none) = true ∧ we M i g D.xc fun t g => isI t fun k => isSm (getI v k g) fun a => we M e g D.xc fun t g => okS (augEnd v o k a t g) D)
  conv => lhs; unfold ws ex
  by_cases h : isLst (g.getD v none) = true
  · rw [if_pos h]
    simp only [h, true_and]
    unfold we
    cases ev M i g with
    | bad => rfl
    | exc c fs g1 => rfl
    | ok t g1 =>
      cases t <;> first | rfl | skip
      rename_i k
      simp only [okR, isI]
      cases getI v k g1 with
      | none => rfl
      | some a =>
        simp only [isSm]
        cases ev M e g1 <;> rfl
  · rw [if_neg h]; exact propext ⟨False.elim, fun z => absurd z.1 h⟩
@[simp ↓] theorem ws_augi' {v : Nat} {i e : E} {o : Op} : ws M (.augi v i o e) P (x :: g) D = (isLst (run ((x :: g).getD v none)) = true ∧ we M i (x :: g) D.xc fun t g => isI (run t) fun k => isSm (run (getI v k g)) fun a => we M e g D.xc fun t g => okS (augEnd v o k a t g) D) := ws_augi
theorem okS_aug {v : Nat} {o : Op} {k a : Int} {t : T} : okS (augEnd v o k a t g) D = isI (run t) fun b => isSm (run (opS o [.int a, .int b])) fun u => ownL (run (g.getD v none)) fun xs => isSm (run (L2.ixN xs.length k)) fun j => isSm (run (some (g.set v (some (.lst true (xs.set j u)))))) fun g => D.nx g := by
  show _ = isI t fun b => isSm (opS o [.int a, .int b]) fun u => ownL (g.getD v none) fun xs => isSm (L2.ixN xs.length k) fun j => D.nx (g.set v (some (.lst true (xs.set j u))))
  unfold augEnd
  cases t <;> first | rfl | skip
  rename_i b
  simp only [isI]
  cases opS o [.int a, .int b] with
  | none => rfl
  | some u =>
    simp only [isSm]
    cases h : g.getD v none with
    | none => rfl
    | some w =>
      cases w <;> first | rfl | skip
      rename_i q xs
      cases q with
      | false => rfl
      | true =>
        simp only [ownL]
        cases L2.ixN xs.length k <;> rfl
@[simp ↓] theorem okS_aug' {v : Nat} {o : Op} {k a : Int} {t : T} : okS (augEnd v o k a t (x :: g)) D = isI (run t) fun b => isSm (run (opS o [.int a, .int b])) fun u => ownL (run ((x :: g).getD v none)) fun xs => isSm (run (L2.ixN xs.length k)) fun j => isSm (run (some ((x :: g).set v (some (.lst true (xs.set j u)))))) fun g => D.nx g := okS_aug
theorem we_hld {i : Nat} {e : E} : we M (.hld i e) g X Q = isSm (run (some (holdG i g))) fun g0 => we M e g0 (fun c fs g1 => isSm (run (g1.getD i none)) fun u => (T.deepL fs && u.deep) = true ∧ isSm (run (some (g.set i (some u)))) fun g => X c fs g) fun t g1 => isSm (run (g1.getD i none)) fun u => (t.deep && u.deep) = true ∧ isSm (run (some (g.set i (some u)))) fun g => Q t g := by
  show _ = we M e (holdG i g) (fun c fs g1 => isSm (g1.getD i none) fun u => (T.deepL fs && u.deep) = true ∧ X c fs (g.set i (some u))) fun t g1 => isSm (g1.getD i none) fun u => (t.deep && u.deep) = true ∧ Q t (g.set i (some u))
  conv => lhs; unfold we ev
  unfold we
  cases ev M e (holdG i g) with
  | bad => rfl
  | ok t g1 =>
    simp only [okR]
    cases g1.getD i none with
    | none => rfl
    | some u =>
      simp only [isSm]
      by_cases h : (t.deep && u.deep) = true
      · rw [if_pos h]; exact propext ⟨fun z => ⟨h, z⟩, fun z => z.2⟩
      · rw [if_neg h]; exact propext ⟨False.elim, fun z => absurd z.1 h⟩
  | exc c fs g1 =>
    simp only [okR]
    cases g1.getD i none with
    | none => rfl
    | some u =>
      simp only [isSm]
      by_cases h : (T.deepL fs && u.deep) = true
      · rw [if_pos h]; exact propext ⟨fun z => ⟨h, z⟩, fun z => z.2⟩
      · rw [if_neg h]; exact propext ⟨False.elim, fun z => absurd z.1 h⟩
@[simp ↓] theorem we_hld' {i : Nat} {e : E} : we M (.hld i e) (x :: g) X Q = isSm (run (some (holdG i (x :: g)))) fun g0 => we M e g0 (fun c fs g1 => isSm (run (g1.getD i none)) fun u => (T.deepL fs && u.deep) = true ∧ isSm (run (some ((x :: g).set i (some u)))) fun g => X c fs g) fun t g1 => isSm (run (g1.getD i none)) fun u => (t.deep && u.deep) = true ∧ isSm (run (some ((x :: g).set i (some u)))) fun g => Q t g := we_hld
@[simp] theorem holdG_cons (i : Nat) (x : Option T) (g : Env) : holdG i (x :: g) = (fzG (x :: g)).set i ((x :: g).getD i none) := rfl
theorem we_pk2 {v k c : Nat} : we M (.pk2 v k c) g X Q = isSm (run (pk2L (run (g.getD v none)) k c)) fun a => Q (.int a) g := by
  show _ = isSm (pk2L (g.getD v none) k c) fun a => Q (.int a) g
  conv => lhs; unfold we ev
  cases pk2L (g.getD v none) k c <;> rfl
@[simp ↓] theorem we_pk2' {v k c : Nat} : we M (.pk2 v k c) (x :: g) X Q = isSm (run (pk2L (run ((x :: g).getD v none)) k c)) fun a => Q (.int a) (x :: g) := we_pk2
theorem we_pkl {v k : Nat} : we M (.pkl v k) g X Q = isSm (run (pklL (run (g.getD v none)) k)) fun a => Q (.int a) g := by
  show _ = isSm (pklL (g.getD v none) k) fun a => Q (.int a) g
  conv => lhs; unfold we ev
  cases pklL (g.getD v none) k <;> rfl
@[simp ↓] theorem we_pkl' {v k : Nat} : we M (.pkl v k) (x :: g) X Q = isSm (run (pklL (run ((x :: g).getD v none)) k)) fun a => Q (.int a) (x :: g) := we_pkl
@[simp] theorem lstO_lst (o : Bool) (xs : List T) : lstO (some (.lst o xs)) = some xs := rfl
@[simp] theorem intO_int (a : Int) : intO (some (.int a)) = some a := rfl
theorem pk2L_of {o p : Bool} {xs ys : List T} {k c : Nat} {i a : Int} (h1 : xs[k]? = some (.lst p ys)) (h2 : xs[c]? = some (.int i)) (h3 : L2.atI ys i = some (.int a)) : pk2L (some (.lst o xs)) k c = some a := by
  unfold pk2L
  simp [h1, h2, h3]
@[simp] theorem pk2L_lst (o : Bool) (xs : List T) (k c : Nat) : pk2L (some (.lst o xs)) k c = (lstO xs[k]?).bind fun ys => (intO xs[c]?).bind fun i => intO (L2.atI ys i) := rfl
@[simp] theorem pklL_lst (o : Bool) (xs : List T) (k : Nat) : pklL (some (.lst o xs)) k = (lstO xs[k]?).map fun ys => (ys.length : Int) := rfl
theorem ws_hldL {i : Nat} {s : Sm} : ws M (.hldL i s) P g D = isSm (run (g.getD i none)) fun t => isSm (run (some (g.set i (some t.fz)))) fun g0 => ws M s (i :: P) g0 { nx := fun g1 => isSm (run (some (g1.set i none))) fun g2 => lfG g2 = true ∧ isSm (run (some (g1.set i (some t)))) fun g => D.nx g, bk := fun _ => False, ct := fun _ => False, rt := fun _ _ => False, xc := fun _ _ _ => False } := by
  show _ = isSm (g.getD i none) fun t => ws M s (i :: P) (g.set i (some t.fz)) { nx := fun g1 => lfG (g1.set i none) = true ∧ D.nx (g1.set i (some t)), bk := fun _ => False, ct := fun _ => False, rt := fun _ _ => False, xc := fun _ _ _ => False }
  conv => lhs; unfold ws ex
  cases g.getD i none with
  | none => rfl
  | some t =>
    simp only [isSm]
    unfold ws
    cases ex M s (i :: P) (g.set i (some t.fz)) with
    | nx g1 =>
      simp only [okS]
      by_cases h : lfG (g1.set i none) = true
      · rw [if_pos h]; exact propext ⟨fun z => ⟨h, z⟩, fun z => z.2⟩
      · rw [if_neg h]; exact propext ⟨False.elim, fun z => absurd z.1 h⟩
    | bk g1 => rfl
    | ct g1 => rfl
    | rt t1 g1 => rfl
    | exc c fs g1 => rfl
    | bad => rfl
@[simp ↓] theorem ws_hldL' {i : Nat} {s : Sm} : ws M (.hldL i s) P (x :: g) D = isSm (run ((x :: g).getD i none)) fun t => isSm (run (some ((x :: g).set i (some t.fz)))) fun g0 => ws M s (i :: P) g0 { nx := fun g1 => isSm (run (some (g1.set i none))) fun g2 => lfG g2 = true ∧ isSm (run (some (g1.set i (some t)))) fun g => D.nx g, bk := fun _ => False, ct := fun _ => False, rt := fun _ _ => False, xc := fun _ _ _ => False } := ws_hldL
@[simp] theorem lfG_nil : lfG [] = true := rfl
@[simp] theorem lfG_none (g : Env) : lfG (none :: g) = lfG g := rfl
@[simp] theorem lfG_some (t : T) (g : Env) : lfG (some t :: g) = (t.lf && lfG g) := rfl
@[simp] theorem lf_int (i : Int) : (T.int i).lf = true := rfl
@[simp] theorem lf_scr (i : List Int) : (T.scr i).lf = true := rfl
theorem we_pki {v k : Nat} : we M (.pki v k) g X Q = isSm (run (pkiL (run (g.getD v none)) k)) fun a => Q (.int a) g := by
  show _ = isSm (pkiL (g.getD v none) k) fun a => Q (.int a) g
  conv => lhs; unfold we ev
  cases pkiL (g.getD v none) k <;> rfl
@[simp ↓] theorem we_pki' {v k : Nat} : we M (.pki v k) (x :: g) X Q = isSm (run (pkiL (run ((x :: g).getD v none)) k)) fun a => Q (.int a) (x :: g) := we_pki
@[simp] theorem pkiL_lst (o : Bool) (xs : List T) (k : Nat) : pkiL (some (.lst o xs)) k = intO xs[k]? := rfl
/-! the operators of this text -/
theorem ifmin (a b : Int) : (if b < a then b else a) = min a b := by omega
theorem ifmax (a b : Int) : (if a < b then b else a) = max a b := by omega
@[simp] theorem op_min3 (a b c : Int) : opS .min3 [.int a, .int b, .int c] = some (.int (min (min a b) c)) := by
  show some (T.int _) = _
  rw [ifmin, ifmin]
@[simp] theorem op_max3 (a b c : Int) : opS .max3 [.int a, .int b, .int c] = some (.int (max (max a b) c)) := by
  show some (T.int _) = _
  rw [ifmax, ifmax]
theorem maxI_foldl (n : Int) (ns : List Int) : maxI (n :: ns) = some (ns.foldl max n) := by
  show some (ns.foldl (fun m x => if m < x then x else m) n) = _
  congr 2
  funext a b
  exact ifmax a b
theorem minI_foldl (n : Int) (ns : List Int) : minI (n :: ns) = some (ns.foldl min n) := by
  show some (ns.foldl (fun m x => if x < m then x else m) n) = _
  congr 2
  funext a b
  exact ifmin a b
@[simp] theorem op_maxL_ints (o : Bool) (ns : List Int) : opS .maxL [.lst o (ns.map .int)] = (maxI ns).map .int := by
  show maxT [.lst o (ns.map .int)] = (maxI ns).map .int
  unfold maxT
  simp only [intsT_map]
@[simp] theorem op_minL_ints (o : Bool) (ns : List Int) : opS .minL [.lst o (ns.map .int)] = (minI ns).map .int := by
  show minT [.lst o (ns.map .int)] = (minI ns).map .int
  unfold minT
  simp only [intsT_map]
@[simp] theorem op_maxDf_ints (o : Bool) (ns : List Int) (d : Int) : opS .maxDf [.lst o (ns.map .int), .int d] = some (.int ((maxI ns).getD d)) := by
  show maxDfT [.lst o (ns.map .int), .int d] = some (.int ((maxI ns).getD d))
  cases ns with
  | nil => rfl
  | cons n ns =>
    show maxT [.lst o ((n :: ns).map .int)] = some (.int ((maxI (n :: ns)).getD d))
    unfold maxT
    simp only [intsT_map]
    rfl
@[simp] theorem op_minDf_ints (o : Bool) (ns : List Int) (d : Int) : opS .minDf [.lst o (ns.map .int), .int d] = some (.int ((minI ns).getD d)) := by
  show minDfT [.lst o (ns.map .int), .int d] = some (.int ((minI ns).getD d))
  cases ns with
  | nil => rfl
  | cons n ns =>
    show minT [.lst o ((n :: ns).map .int)] = some (.int ((minI (n :: ns)).getD d))
    unfold minT
    simp only [intsT_map]
    rfl
@[simp] theorem op_lidx (o : Bool) (xs : List T) (y : T) : opS .lidx [.lst o xs, y] = if y.flat && xs.all T.flat then (xs.findIdx? fun t => eqF t y).map fun j => .int (j : Nat) else none := rfl
/-- pairs by a number ahead -/
theorem dataLt_fst {a b : Int} (h : a ≠ b) (r s : List PyData) : PySem.W.dataLt (.tuple (.int a :: r)) (.tuple (.int b :: s)) = decide (a < b) := by
  rw [PySem.W.dataLt_tuple, PySem.W.dataLt_cons (by rfl), if_neg, PySem.W.dataLt_int]
  simp [PyData.eqv, h]
end Kv

/-! Kv 30: loops and comprehensions over known items; results as equations. -/
namespace Kv
open PySem L2
variable {M : Fns} {P : List Nat} {g : Env} {X : QX} {D : Dp} {Q : T → Env → Prop} {α : Type}
theorem map_at {us : List α} {enc : α → T} {i : Nat} {t : T} (h : (us.map enc)[i]? = some t) : ∃ u, t = enc u ∧ us[i]? = some u ∧ us = us.take i ++ u :: us.drop (i + 1) ∧ us.take (i + 1) = us.take i ++ [u] ∧ us.drop i = u :: us.drop (i + 1) := by
  rw [List.getElem?_map] at h
  cases e : us[i]? with
  | none => rw [e] at h; cases h
  | some u =>
    rw [e] at h
    obtain ⟨hl, he⟩ := List.getElem?_eq_some_iff.mp e
    have hd : us.drop i = u :: us.drop (i + 1) := by rw [List.drop_eq_getElem_cons hl, he]
    refine ⟨u, (Option.some.inj h).symm, rfl, ?_, ?_, hd⟩
    · rw [← hd, List.take_append_drop]
    · rw [List.take_succ_eq_append_getElem hl, he]
theorem wLoop_of {us : List α} {enc : α → T} {tg : Tg} {body : Sms} {q : Option (Nat × T)} (I : List α → List α → Env → Prop) (i0 : I [] us g)
    (istep : ∀ (pre : List α) (u : α) (post : List α) (g : Env), us = pre ++ u :: post → I pre (u :: post) g → isSm (tg.put (enc u) (pinIt q P) g) fun g1 => wss M body (pinIt q P) g1 { nx := I (pre ++ [u]) post, ct := I (pre ++ [u]) post, bk := fun g => D.nx (unIt q g), rt := fun t g => D.rt t (unIt q g), xc := fun c fs g => D.xc c fs (unIt q g) })
    (iend : ∀ g, I us [] g → D.nx (unIt q g)) : wLoop M tg body (us.map enc, q) P g D := by
  refine wLoop_inv (fun i g => I (us.take i) (us.drop i) g) (by simpa using i0) ?_ ?_
  · intro i t g hi h
    obtain ⟨u, rfl, _, e1, e2, e3⟩ := map_at hi
    rw [e3] at h
    have := istep _ u _ g e1 h
    rw [← e2] at this
    exact this
  · intro g h
    refine iend g ?_
    rw [List.length_map, List.take_length, List.drop_length] at h
    exact h
theorem wLoop_rng {n : Nat} {f : Nat → T} {tg : Tg} {body : Sms} {q : Option (Nat × T)} (I : Nat → Env → Prop) (i0 : I 0 g)
    (istep : ∀ (i : Nat) (g : Env), i < n → I i g → isSm (tg.put (f i) (pinIt q P) g) fun g1 => wss M body (pinIt q P) g1 { nx := I (i + 1), ct := I (i + 1), bk := fun g => D.nx (unIt q g), rt := fun t g => D.rt t (unIt q g), xc := fun c fs g => D.xc c fs (unIt q g) })
    (iend : ∀ g, I n g → D.nx (unIt q g)) : wLoop M tg body ((List.range n).map f, q) P g D := by
  refine wLoop_inv I i0 ?_ ?_
  · intro i t g hi h
    obtain ⟨u, rfl, e, _⟩ := map_at hi
    obtain ⟨hl, hk⟩ := List.getElem?_eq_some_iff.mp e
    rw [List.getElem_range] at hk
    subst hk
    rw [List.length_range] at hl
    exact istep i g hl h
  · intro g h
    rw [List.length_map, List.length_range] at h
    exact iend g h
theorem wComp_of {us : List α} {enc : α → T} {tg : Tg} {cond elt : E} {q : Option (Nat × T)} (I : List α → List T → Env → Prop) (hb : inBack q tg.slots = false) (hz : us.length ≤ sizeLine) (i0 : I [] [] (wipeE g tg.slots))
    (step : ∀ (pre : List α) (u : α) (post : List α) (acc : List T) (g : Env), us = pre ++ u :: post → I pre acc g → isSm (tg.put (enc u) [] g) fun g1 => we M cond g1 (fun _ _ _ => False) fun b g2 => isB (run b) fun k => if k = true then we M elt g2 (fun _ _ _ => False) fun y g3 => I (pre ++ [u]) (acc ++ [y]) (wipeE g3 tg.slots) else I (pre ++ [u]) acc (wipeE g2 tg.slots))
    (iend : ∀ ys g1, I us ys g1 → Q (.lst true ys) (unIt q (backE g g1 tg.slots))) : wComp M tg cond elt (us.map enc, q) g X Q := by
  refine wComp_inc (fun i acc g => I (us.take i) acc g) hb (by rw [List.length_map]; exact hz) (by simpa using i0) ?_ ?_
  · intro i t acc g hi h
    obtain ⟨u, rfl, _, e1, e2, _⟩ := map_at hi
    have := step _ u _ acc g e1 h
    rw [← e2] at this
    exact this
  · intro ys g1 h
    rw [List.length_map, List.take_length] at h
    exact iend ys g1 h
/-- a comprehension that chooses by c, makes h, changes no name -/
theorem wComp_pure {us : List α} {enc : α → T} {tg : Tg} {cond elt : E} {q : Option (Nat × T)} (c : α → Bool) (h : α → T) (hb : inBack q tg.slots = false) (hz : us.length ≤ sizeLine)
    (step : ∀ u ∈ us, isSm (tg.put (enc u) [] (wipeE g tg.slots)) fun g1 => we M cond g1 (fun _ _ _ => False) fun b g2 => b = .bl (c u) ∧ if c u = true then we M elt g2 (fun _ _ _ => False) fun y g3 => y = h u ∧ wipeE g3 tg.slots = wipeE g tg.slots else wipeE g2 tg.slots = wipeE g tg.slots)
    (iend : Q (.lst true ((us.filter c).map h)) (unIt q (backE g (wipeE g tg.slots) tg.slots))) : wComp M tg cond elt (us.map enc, q) g X Q := by
  refine wComp_of (fun pre acc g1 => g1 = wipeE g tg.slots ∧ acc = (pre.filter c).map h) hb hz ⟨rfl, rfl⟩ ?_ ?_
  · rintro pre u post acc g1 e ⟨rfl, rfl⟩
    have s := step u (by rw [e]; simp)
    cases e3 : tg.put (enc u) [] (wipeE g tg.slots) with
    | none => rw [e3] at s; exact s.elim
    | some g3 =>
      rw [e3] at s
      simp only [isSm] at s ⊢
      refine okR_iff' s fun b g4 w4 => ?_
      obtain ⟨rfl, w4⟩ := w4
      simp only [run_eq, isB_bl]
      cases hc : c u with
      | false =>
        rw [hc, if_neg (by decide)] at w4
        rw [if_neg (by decide)]
        exact ⟨w4, by simp [List.filter_append, hc]⟩
      | true =>
        rw [hc, if_pos rfl] at w4
        rw [if_pos rfl]
        refine okR_iff' w4 fun y g5 w5 => ?_
        obtain ⟨rfl, w5⟩ := w5
        exact ⟨w5, by simp [List.filter_append, hc]⟩
  · rintro ys g1 ⟨rfl, rfl⟩
    exact iend
/-- .. every item -/
theorem wComp_all {us : List α} {enc : α → T} {tg : Tg} {elt : E} {q : Option (Nat × T)} (h : α → T) (hb : inBack q tg.slots = false) (hz : us.length ≤ sizeLine)
    (step : ∀ u ∈ us, isSm (tg.put (enc u) [] (wipeE g tg.slots)) fun g1 => we M elt g1 (fun _ _ _ => False) fun y g3 => y = h u ∧ wipeE g3 tg.slots = wipeE g tg.slots)
    (iend : Q (.lst true (us.map h)) (unIt q (backE g (wipeE g tg.slots) tg.slots))) : wComp M tg (.k (.bl true)) elt (us.map enc, q) g X Q := by
  refine wComp_pure (fun _ => true) h hb hz (fun u hu => ?_) (by rw [List.filter_eq_self.mpr (fun _ _ => rfl)]; exact iend)
  have s := step u hu
  cases e3 : tg.put (enc u) [] (wipeE g tg.slots) with
  | none => rw [e3] at s; exact s.elim
  | some g3 =>
    rw [e3] at s
    simp only [isSm] at s ⊢
    rw [we_k]
    exact ⟨rfl, by rw [if_pos trivial]; exact s⟩
/-- an invariant that simp leaves alone -/
def Iv (I : Nat → Env → Prop) (k : Nat) (g : Env) (_ : Cn I := .mk) : Prop := I k g
theorem iv {I : Nat → Env → Prop} {k : Nat} {g : Env} (h : I k g) : Iv I k g := h
def Iv2 (I : Nat → List T → Env → Prop) (k : Nat) (acc : List T) (g : Env) (_ : Cn I := .mk) : Prop := I k acc g
theorem iv2 {I : Nat → List T → Env → Prop} {k : Nat} {acc : List T} {g : Env} (h : I k acc g) : Iv2 I k acc g := h
theorem wLoop_iv {M : Fns} {P : List Nat} {g : Env} {D : Dp} {tg : Tg} {body : Sms} {p : List T × Option (Nat × T)} (I : Nat → Env → Prop) (i0 : I 0 g) (istep : ∀ (i : Nat) (t : T) (g : Env), p.1[i]? = some t → I i g → isSm (tg.put t (pinIt p.2 P) g) fun g1 => wss M body (pinIt p.2 P) g1 { nx := fun g => Iv I (i + 1) g, ct := fun g => Iv I (i + 1) g, bk := fun g => D.nx (unIt p.2 g), rt := fun t g => D.rt t (unIt p.2 g), xc := fun c fs g => D.xc c fs (unIt p.2 g) }) (iend : ∀ g, I p.1.length g → D.nx (unIt p.2 g)) : wLoop M tg body p P g D := wLoop_inv I i0 istep iend
theorem wComp_iv {M : Fns} {g : Env} {X : QX} {Q : T → Env → Prop} {tg : Tg} {cond elt : E} {p : List T × Option (Nat × T)} (I : Nat → List T → Env → Prop) (hb : inBack p.2 tg.slots = false) (hz : p.1.length ≤ sizeLine) (i0 : I 0 [] (wipeE g tg.slots)) (step : ∀ (i : Nat) (t : T) (acc : List T) (g : Env), p.1[i]? = some t → I i acc g → isSm (tg.put t [] g) fun g1 => we M cond g1 (fun _ _ _ => False) fun b g2 => isB (run b) fun k => if k = true then we M elt g2 (fun _ _ _ => False) fun y g3 => Iv2 I (i + 1) (acc ++ [y]) (wipeE g3 tg.slots) else Iv2 I (i + 1) acc (wipeE g2 tg.slots)) (iend : ∀ ys g1, I p.1.length ys g1 → Q (.lst true ys) (unIt p.2 (backE g g1 tg.slots))) : wComp M tg cond elt p g X Q := wComp_inc I hb hz i0 step iend

def Iv3 {α : Type} (I : List α → List α → Env → Prop) (a b : List α) (g : Env) (_ : Cn I := .mk) : Prop := I a b g
theorem iv3 {α : Type} {I : List α → List α → Env → Prop} {a b : List α} {g : Env} (h : I a b g) : Iv3 I a b g := h
def Iv4 {α : Type} (I : List α → List T → Env → Prop) (a : List α) (b : List T) (g : Env) (_ : Cn I := .mk) : Prop := I a b g
theorem iv4 {α : Type} {I : List α → List T → Env → Prop} {a : List α} {b : List T} {g : Env} (h : I a b g) : Iv4 I a b g := h
theorem wLoop_oi {us : List α} {enc : α → T} {tg : Tg} {body : Sms} {q : Option (Nat × T)} (I : List α → List α → Env → Prop) (i0 : I [] us g)
    (istep : ∀ (pre : List α) (u : α) (post : List α) (g : Env), us = pre ++ u :: post → I pre (u :: post) g → isSm (tg.put (enc u) (pinIt q P) g) fun g1 => wss M body (pinIt q P) g1 { nx := fun g => Iv3 I (pre ++ [u]) post g, ct := fun g => Iv3 I (pre ++ [u]) post g, bk := fun g => D.nx (unIt q g), rt := fun t g => D.rt t (unIt q g), xc := fun c fs g => D.xc c fs (unIt q g) })
    (iend : ∀ g, I us [] g → D.nx (unIt q g)) : wLoop M tg body (us.map enc, q) P g D := wLoop_of I i0 istep iend
theorem wLoop_ri {n : Nat} {f : Nat → T} {tg : Tg} {body : Sms} {q : Option (Nat × T)} (I : Nat → Env → Prop) (i0 : I 0 g)
    (istep : ∀ (i : Nat) (g : Env), i < n → I i g → isSm (tg.put (f i) (pinIt q P) g) fun g1 => wss M body (pinIt q P) g1 { nx := fun g => Iv I (i + 1) g, ct := fun g => Iv I (i + 1) g, bk := fun g => D.nx (unIt q g), rt := fun t g => D.rt t (unIt q g), xc := fun c fs g => D.xc c fs (unIt q g) })
    (iend : ∀ g, I n g → D.nx (unIt q g)) : wLoop M tg body ((List.range n).map f, q) P g D := wLoop_rng I i0 istep iend
theorem wComp_oi {us : List α} {enc : α → T} {tg : Tg} {cond elt : E} {q : Option (Nat × T)} (I : List α → List T → Env → Prop) (hb : inBack q tg.slots = false) (hz : us.length ≤ sizeLine) (i0 : I [] [] (wipeE g tg.slots))
    (step : ∀ (pre : List α) (u : α) (post : List α) (acc : List T) (g : Env), us = pre ++ u :: post → I pre acc g → isSm (tg.put (enc u) [] g) fun g1 => we M cond g1 (fun _ _ _ => False) fun b g2 => isB (run b) fun k => if k = true then we M elt g2 (fun _ _ _ => False) fun y g3 => Iv4 I (pre ++ [u]) (acc ++ [y]) (wipeE g3 tg.slots) else Iv4 I (pre ++ [u]) acc (wipeE g2 tg.slots))
    (iend : ∀ ys g1, I us ys g1 → Q (.lst true ys) (unIt q (backE g g1 tg.slots))) : wComp M tg cond elt (us.map enc, q) g X Q := wComp_of I hb hz i0 step iend
@[simp] theorem fzL_mp (us : List α) (enc : α → T) : T.fzL (us.map enc) = us.map fun u => (enc u).fz := by
  induction us with
  | nil => rfl
  | cons u us ih => simp [ih]
@[simp high] theorem fzL_int (ns : List Int) : T.fzL (ns.map T.int) = ns.map T.int := by rw [fzL_mp]; rfl
@[simp high] theorem fzL_str (ns : List Str) : T.fzL (ns.map T.str) = ns.map T.str := by rw [fzL_mp]; rfl
@[simp high] theorem fzL_bl (ns : List Bool) : T.fzL (ns.map T.bl) = ns.map T.bl := by rw [fzL_mp]; rfl
@[simp] theorem deepL_mp (us : List α) (enc : α → T) : T.deepL (us.map enc) = us.all fun u => (enc u).deep := by
  induction us with
  | nil => rfl
  | cons u us ih => simp [ih]
@[simp] theorem noeL_mp (us : List α) (enc : α → T) : T.noeL (us.map enc) = us.all fun u => (enc u).noe := by
  induction us with
  | nil => rfl
  | cons u us ih => simp [ih]
@[simp] theorem fzL_app (a b : List T) : T.fzL (a ++ b) = T.fzL a ++ T.fzL b := by
  induction a with
  | nil => rfl
  | cons u us ih => simp [ih]
@[simp] theorem deepL_app (a b : List T) : T.deepL (a ++ b) = (T.deepL a && T.deepL b) := by
  induction a with
  | nil => rfl
  | cons u us ih => simp [ih, Bool.and_assoc]
@[simp] theorem noeL_app (a b : List T) : T.noeL (a ++ b) = (T.noeL a && T.noeL b) := by
  induction a with
  | nil => rfl
  | cons u us ih => simp [ih, Bool.and_assoc]
theorem szl : sizeLine = 16777216 := rfl
theorem ofString_inj {a b : String} : Str.ofString a = Str.ofString b ↔ a = b := by
  refine ⟨fun h => ?_, fun h => by rw [h]⟩
  rw [Str.ofString_eq_toList, Str.ofString_eq_toList] at h
  have h2 : a.toList.map Char.toNat = b.toList.map Char.toNat := by
    have := congrArg (fun (s : Str) => s.cps.toList) h
    simpa using this
  have h3 : a.toList = b.toList := by
    have inj : ∀ (x y : List Char), x.map Char.toNat = y.map Char.toNat → x = y := by
      intro x
      induction x with
      | nil => intro y h; cases y with
        | nil => rfl
        | cons _ _ => cases h
      | cons c x ih => intro y h; cases y with
        | nil => cases h
        | cons d y =>
          simp only [List.map_cons, List.cons.injEq] at h
          have hc : c = d := by
            apply Char.ext
            apply UInt32.toNat_inj.mp
            exact h.1
          rw [hc, ih y h.2]
    exact inj _ _ h2
  exact String.toList_inj.mp h3
/-! ### results as equations -/
inductive Out where
  | ok (t : T) | err (c : Nat) (fs : List T)
def R (n : Nat) : Out → Fr
  | .ok t => .ok t (List.replicate n none)
  | .err c fs => .exc c fs (List.replicate n none)
theorem eqR {r : Fr} {n : Nat} {o : Out} (h : okF r (fun c fs ios => o = .err c fs ∧ ios = List.replicate n none) fun t ios => o = .ok t ∧ ios = List.replicate n none) : r = R n o := by
  cases r with
  | ok t ios => obtain ⟨rfl, rfl⟩ := h; rfl
  | exc c fs ios => obtain ⟨rfl, rfl⟩ := h; rfl
  | bad => exact h.elim
@[simp] theorem okF_Rok (n : Nat) (t : T) (X : QX) (Q : T → Env → Prop) : okF (R n (.ok t)) X Q = Q t (List.replicate n none) := (Eq.refl (okF (R n (.ok t)) X Q)).trans (Eq.refl (Q t (List.replicate n none)))
@[simp] theorem okF_Rerr (n : Nat) (c : Nat) (fs : List T) (X : QX) (Q : T → Env → Prop) : okF (R n (.err c fs)) X Q = X c fs (List.replicate n none) := (Eq.refl (okF (R n (.err c fs)) X Q)).trans (Eq.refl (X c fs (List.replicate n none)))
@[simp] theorem okF_Rite (n : Nat) (c : Prop) [Decidable c] (a b : Out) (X : QX) (Q : T → Env → Prop) : okF (R n (if c then a else b)) X Q = if c then okF (R n a) X Q else okF (R n b) X Q := by
  by_cases h : c
  · rw [if_pos h, if_pos h]
  · rw [if_neg h, if_neg h]

theorem cut_hiM {us : List α} {f : α → T} {p : Int} (h : 0 ≤ p) : cutT (us.map f) none (some p) = (us.take p.toNat).map f := by
  unfold cutT HT.sIx
  simp only [List.drop_zero, Nat.sub_zero, List.length_map]
  rw [if_neg (by omega), List.map_take]
  by_cases hp : p.toNat ≤ us.length
  · rw [Nat.min_eq_left hp]
  · rw [Nat.min_eq_right (by omega), List.take_of_length_le (by simp), List.take_of_length_le (by simp; omega)]
theorem cut_loM {us : List α} {f : α → T} {p : Int} (h : 0 ≤ p) : cutT (us.map f) (some p) none = (us.drop p.toNat).map f := by
  unfold cutT HT.sIx
  simp only [List.length_map]
  rw [if_neg (by omega), List.map_drop]
  by_cases hp : p.toNat ≤ us.length
  · rw [Nat.min_eq_left hp, List.take_of_length_le (by simp)]
  · rw [Nat.min_eq_right (by omega), List.drop_of_length_le (by simp), List.drop_of_length_le (by simp; omega)]
    simp
theorem cut_midM {us : List α} {f : α → T} {p q : Int} (h : 0 ≤ p) (h2 : 0 ≤ q) : cutT (us.map f) (some p) (some q) = ((us.drop p.toNat).take (q.toNat - p.toNat)).map f := by
  unfold cutT HT.sIx
  simp only [List.length_map]
  rw [if_neg (by omega), if_neg (by omega), List.map_take, List.map_drop]
  by_cases hp : p.toNat ≤ us.length
  · rw [Nat.min_eq_left hp]
    by_cases hq : q.toNat ≤ us.length
    · rw [Nat.min_eq_left hq]
    · rw [Nat.min_eq_right (by omega), List.take_of_length_le (by simp), List.take_of_length_le (by simp; omega)]
  · have e1 : (us.map f).drop p.toNat = [] := List.drop_of_length_le (by simp; omega)
    have e2 : (us.map f).drop (min p.toNat us.length) = [] := List.drop_of_length_le (by rw [Nat.min_eq_right (by omega)]; simp)
    rw [e1, e2]
    simp
theorem cut_negM {us : List α} {f : α → T} {p : Int} (h : p < 0) : cutT (us.map f) none (some p) = (us.take (p + us.length).toNat).map f := by
  unfold cutT HT.sIx
  simp only [List.drop_zero, Nat.sub_zero, List.length_map]
  rw [if_pos h, List.map_take]
theorem cut_allM {us : List α} {f : α → T} : cutT (us.map f) none none = us.map f := by
  unfold cutT HT.sIx
  simp only [List.drop_zero, Nat.sub_zero, List.length_map]
  exact List.take_of_length_le (by simp)
theorem atI_map {us : List α} {f : α → T} {i : Int} (h0 : 0 ≤ i) (h1 : i < us.length) : L2.atI (us.map f) i = some (f (us[i.toNat]'(by omega))) := by
  refine atI_nat h0 ?_
  rw [List.getElem?_map, List.getElem?_eq_getElem (by omega)]
  rfl
theorem atI_neg {us : List α} {f : α → T} {i : Int} (h0 : i < 0) (h1 : -(us.length : Int) ≤ i) : L2.atI (us.map f) i = some (f (us[(i + us.length).toNat]'(by omega))) := by
  unfold L2.atI L2.ixN
  rw [if_neg (by omega), if_pos (by rw [List.length_map]; exact h1)]
  show (us.map f)[(i + ((us.map f).length : Int)).toNat]? = _
  simp only [List.length_map]
  rw [List.getElem?_map, List.getElem?_eq_getElem (by omega)]
  rfl
/-- a def by its body, what is wanted behind it kept shut -/
theorem run_ofD {d : Def} {ts : List T} {X : Nat → List T → Env → Prop} {Q : T → Env → Prop} (hl : ts.length = d.io.length) (h : ∀ D : Dp, (∀ t g, Q t (mask d.io g) → D.rt t g) → (∀ g, Q .non (mask d.io g) → D.nx g) → (∀ c fs g, X c fs (mask d.io g) → D.xc c fs g) → wss M d.body (pinsOf 0 d.io) (ts.map some ++ List.replicate (d.n - ts.length) none) D) : okF (runDef M d ts) X Q :=
  run_of hl (h _ (fun _ _ z => z) (fun _ z => z) (fun _ _ _ z => z))
@[simp] theorem fzL_take (n : Nat) (xs : List T) : T.fzL (xs.take n) = (T.fzL xs).take n := by
  rw [fzL_map, fzL_map, List.map_take]
@[simp] theorem fzL_drop (n : Nat) (xs : List T) : T.fzL (xs.drop n) = (T.fzL xs).drop n := by
  rw [fzL_map, fzL_map, List.map_drop]
theorem deepL_iff {xs : List T} : T.deepL xs = true ↔ ∀ x ∈ xs, x.deep = true := by
  induction xs with
  | nil => simp
  | cons x xs ih => simp [ih]
theorem noeL_iff {xs : List T} : T.noeL xs = true ↔ ∀ x ∈ xs, x.noe = true := by
  induction xs with
  | nil => simp
  | cons x xs ih => simp [ih]
@[simp] theorem deepL_take {n : Nat} {xs : List T} (h : T.deepL xs = true) : T.deepL (xs.take n) = true := deepL_iff.mpr fun x hx => deepL_iff.mp h x (List.mem_of_mem_take hx)
@[simp] theorem deepL_drop {n : Nat} {xs : List T} (h : T.deepL xs = true) : T.deepL (xs.drop n) = true := deepL_iff.mpr fun x hx => deepL_iff.mp h x (List.mem_of_mem_drop hx)
@[simp] theorem noeL_take {n : Nat} {xs : List T} (h : T.noeL xs = true) : T.noeL (xs.take n) = true := noeL_iff.mpr fun x hx => noeL_iff.mp h x (List.mem_of_mem_take hx)
@[simp] theorem noeL_drop {n : Nat} {xs : List T} (h : T.noeL xs = true) : T.noeL (xs.drop n) = true := noeL_iff.mpr fun x hx => noeL_iff.mp h x (List.mem_of_mem_drop hx)
theorem cut_hi {xs : List T} {p : Int} (h : 0 ≤ p) : cutT xs none (some p) = xs.take p.toNat := by simpa using cut_hiM (us := xs) (f := id) h
theorem cut_lo {xs : List T} {p : Int} (h : 0 ≤ p) : cutT xs (some p) none = xs.drop p.toNat := by simpa using cut_loM (us := xs) (f := id) h
theorem cut_mid {xs : List T} {p q : Int} (h : 0 ≤ p) (h2 : 0 ≤ q) : cutT xs (some p) (some q) = (xs.drop p.toNat).take (q.toNat - p.toNat) := by simpa using cut_midM (us := xs) (f := id) h h2
theorem cut_neg {xs : List T} {p : Int} (h : p < 0) : cutT xs none (some p) = xs.take (p + xs.length).toNat := by simpa using cut_negM (us := xs) (f := id) h
theorem cut_all {xs : List T} : cutT xs none none = xs := by simpa using cut_allM (us := xs) (f := id)
/-- all ints -/
def Ints (xs : List T) (ns : List Int) : Prop := xs = ns.map T.int
@[simp] theorem intsT_nil : intsT [] = some [] := rfl
@[simp] theorem intsT_cons (n : Int) (xs : List T) : intsT (.int n :: xs) = (intsT xs).map (n :: ·) := rfl
@[simp] theorem intsT_m (ns : List Int) : intsT (ns.map .int) = some ns := intsT_map ns
@[simp] theorem intsT_app (a : List Int) (b : List T) : intsT (a.map .int ++ b) = (intsT b).map (a ++ ·) := by
  induction a with
  | nil => simp
  | cons n a ih => simp [ih, Function.comp_def]
theorem sortL_int {o : Bool} {xs : List T} {ns : List Int} (h : intsT xs = some ns) : opS Op.sortL [T.lst o xs] = some (T.lst true ((sortI ns).map T.int)) := by
  show sortT [.lst o xs] = _
  unfold sortT
  simp only [h]
theorem sortI_len (ns : List Int) : (sortI ns).length = ns.length := List.length_mergeSort ns
end Kv

/-! Kv 31: texts by their signs; marks. -/
namespace Kv
open PySem L2
/-- the signs of a text -/
def cd (z : Str) : List Nat := z.cps.toList
/-- a text by its signs -/
def tx (cs : List Nat) : Str := ⟨cs.toArray⟩
@[simp] theorem cd_tx (cs : List Nat) : cd (tx cs) = cs := by simp [cd, tx]
@[simp] theorem tx_cd (z : Str) : tx (cd z) = z := by cases z; simp [cd, tx]
theorem str_ext {a b : Str} (h : cd a = cd b) : a = b := by rw [← tx_cd a, ← tx_cd b, h]
theorem len_cd (z : Str) : z.length = (cd z).length := by simp [cd, Str.length]
@[simp] theorem cd_app (a b : Str) : cd (a ++ b) = cd a ++ cd b := by
  show (a.cps ++ b.cps).toList = _
  simp [cd]
theorem cd_of (s : String) : cd (Str.ofString s) = s.toList.map Char.toNat := by
  rw [Str.ofString_eq_toList]
  simp [cd]
theorem cd_one (c : Nat) : cd ⟨#[c]⟩ = [c] := rfl
theorem cd_hi {z : Str} {p : Int} (h : 0 ≤ p) : cd (L2.cutS z none (some p)) = (cd z).take p.toNat := by
  unfold L2.cutS HT.sIx cd
  simp only [List.drop_zero, Nat.sub_zero]
  rw [if_neg (by omega)]
  have e : z.length = z.cps.toList.length := len_cd z
  by_cases hp : p.toNat ≤ z.length
  · rw [Nat.min_eq_left hp]
  · rw [Nat.min_eq_right (by omega), List.take_of_length_le (by omega), List.take_of_length_le (by omega)]
theorem cd_lo {z : Str} {p : Int} (h : 0 ≤ p) : cd (L2.cutS z (some p) none) = (cd z).drop p.toNat := by
  unfold L2.cutS HT.sIx cd
  simp only
  rw [if_neg (by omega)]
  have e : z.length = z.cps.toList.length := len_cd z
  by_cases hp : p.toNat ≤ z.length
  · rw [Nat.min_eq_left hp, List.take_of_length_le (by simp [e])]
  · rw [Nat.min_eq_right (by omega), List.drop_of_length_le (by omega), List.drop_of_length_le (by omega)]
    simp
theorem cd_join (ys : List Str) : cd (Txt.join (tx []) ys) = ys.flatMap cd := by
  rw [show Txt.join (tx []) ys = Str.join (tx []) ys from PySem.StrLaws.glued_eq_join _ _]
  induction ys with
  | nil => rfl
  | cons y ys ih =>
    cases ys with
    | nil => show cd y = _; simp
    | cons z zs =>
      show cd (y ++ tx [] ++ Str.join (tx []) (z :: zs)) = _
      rw [cd_app, cd_app, ih]
      simp
theorem cd_upper {z : Str} (h : ∀ c ∈ cd z, c < 128) : cd (Txt.upper z) = (cd z).map PyProof.Rows.up1 := by
  rw [PyProof.Rows.upper_ascii h]
  simp [cd]
theorem inS_lst (x : T) (o : Bool) (xs : List T) : inS x (.lst o xs) = if x.flat && xs.all T.flat then some (xs.any fun t => eqF t x) else none := rfl
theorem inS_tup (x : T) (xs : List T) : inS x (.tup xs) = if x.flat && xs.all T.flat then some (xs.any fun t => eqF t x) else none := rfl
@[simp] theorem flat_str (z : Str) : T.flat (.str z) = true := rfl
@[simp] theorem flat_int (z : Int) : T.flat (.int z) = true := rfl
@[simp] theorem flat_bl (z : Bool) : T.flat (.bl z) = true := rfl
@[simp] theorem flat_non : T.flat .non = true := rfl
@[simp] theorem eqF_str (a b : Str) : eqF (.str a) (.str b) = decide (a = b) := by
  show (a == b) = _
  by_cases h : a = b <;> simp [h]
theorem ltS_cd (a b : Str) : ltS a b = decide (cd a < cd b) := rfl
/-- 1 to 8 letters a to z -/
def markC (cs : List Nat) : Bool := decide (1 ≤ cs.length) && decide (cs.length ≤ 8) && cs.all fun c => decide (97 ≤ c) && decide (c ≤ 122)
def markB (z : Str) : Bool := markC (cd z)
structure Mark (z : Str) : Prop where
  lo : 1 ≤ (cd z).length
  hi : (cd z).length ≤ 8
  az : ∀ c ∈ cd z, 97 ≤ c ∧ c ≤ 122
theorem mark_iff {z : Str} : markB z = true ↔ Mark z := by
  unfold markB markC
  simp only [Bool.and_eq_true, decide_eq_true_eq, List.all_eq_true]
  exact ⟨fun h => ⟨h.1.1, h.1.2, h.2⟩, fun h => ⟨⟨h.lo, h.hi⟩, h.az⟩⟩
theorem mark_no {z : Str} : markB z = false ↔ ¬ Mark z := by
  rw [← mark_iff]
  simp
theorem ltS_a (c : Nat) : ltS ⟨#[c]⟩ (Str.ofString "a") = decide (c < 97) := by
  have e : cd (Str.ofString "a") = [97] := by decide +kernel
  rw [ltS_cd, e, cd_one]
  congr 1
  rw [List.cons_lt_cons_iff]
  simp
theorem ltS_z (c : Nat) : ltS (Str.ofString "z") ⟨#[c]⟩ = decide (122 < c) := by
  have e : cd (Str.ofString "z") = [122] := by decide +kernel
  rw [ltS_cd, e, cd_one]
  congr 1
  rw [List.cons_lt_cons_iff]
  simp
theorem sz_mark {z : Str} (h : Mark z) : z.length ≤ sizeLine := by
  rw [len_cd]
  exact Nat.le_trans h.hi (by decide)
theorem idx_str {z : Str} {i : Int} {c : Nat} (h0 : 0 ≤ i) (hz : z.length ≤ sizeLine) (h : (cd z)[i.toNat]? = some c) : opS .idx [.str z, .int i] = some (.str ⟨#[c]⟩) := by
  show idxS [.str z, .int i] = _
  show (if z.length ≤ sizeLine then (L2.atI z.cps.toList i).map (fun c => T.str ⟨#[c]⟩) else none) = _
  rw [if_pos hz]
  have hl := (List.getElem?_eq_some_iff.mp h).1
  have : L2.atI z.cps.toList i = some c := by
    unfold L2.atI L2.ixN
    have hk : i < (z.cps.toList.length : Int) := by
      have : i.toNat < z.cps.toList.length := hl
      omega
    rw [if_pos h0, if_pos hk]
    exact h
  rw [this]
  rfl
@[simp] theorem op_slHs (z : Str) (j : Int) : opS (.slice false true) [.str z, .int j] = if z.length ≤ sizeLine then some (.str (L2.cutS z none (some j))) else none := rfl
@[simp] theorem op_slLs (z : Str) (j : Int) : opS (.slice true false) [.str z, .int j] = if z.length ≤ sizeLine then some (.str (L2.cutS z (some j) none)) else none := rfl
@[simp] theorem op_addS (a b : Str) : opS .add [.str a, .str b] = if a.length + b.length ≤ sizeLine then some (.str (a ++ b)) else none := rfl
theorem op_joinS {a : Str} {o : Bool} {xs : List T} {ys : List Str} (h : strsT xs = some ys) (hl : (ys.map (·.length)).sum + ys.length * a.length ≤ 16777216) : opS .join [.str a, .lst o xs] = some (.str (Txt.join a ys)) := by
  show joinS [.str a, .lst o xs] = _
  unfold joinS
  simp only [h, Option.bind_some]
  rw [if_pos hl]
theorem strsT_map (ns : List Str) : strsT (ns.map .str) = some ns := by
  induction ns with
  | nil => rfl
  | cons n ns ih =>
    show (strsT (ns.map .str)).map (n :: ·) = _
    rw [ih]
    rfl
theorem sortL_str {o : Bool} (zs : List Str) : opS Op.sortL [T.lst o (zs.map T.str)] = some (T.lst true ((sortS zs).map T.str)) := by
  show sortT [.lst o _] = _
  unfold sortT
  cases zs with
  | nil => simp [intsT, sortI, sortS]
  | cons z zs =>
    have e : intsT ((z :: zs).map T.str) = none := rfl
    simp only [e, strsT_map]
theorem sortS_perm (zs : List Str) : (sortS zs).Perm zs := List.mergeSort_perm zs _
theorem sortS_pw (zs : List Str) : (sortS zs).Pairwise fun a b => leS a b = true := List.pairwise_mergeSort (le := leS) (fun a b c h1 h2 => leS_trans h1 h2) leS_total zs
theorem leS_ltS {a b : Str} (h : leS a b = true) (hne : a ≠ b) : ltS a b = true := by
  unfold leS at h
  rw [PyProof.Rows.ltCps_eq] at h
  simp only [Bool.not_eq_true', decide_eq_false_iff_not] at h
  rw [ltS_cd]
  refine decide_eq_true ?_
  rcases Decidable.em (cd a < cd b) with h2 | h2
  · exact h2
  · exact absurd (str_ext (List.le_antisymm (List.not_lt.mp h) (List.not_lt.mp h2))) hne
theorem sortS_strict {zs : List Str} (h : zs.Nodup) : (sortS zs).Pairwise fun a b => ltS a b = true := by
  have nd : (sortS zs).Nodup := (sortS_perm zs).nodup_iff.mpr h
  exact ((sortS_pw zs).and nd).imp fun h => leS_ltS h.1 h.2
/-! ### numbers as words -/
def wstep (p : List Nat × Nat) : List Nat × Nat := if 0 < p.2 then ((97 + (p.2 - 1) % 26) :: p.1, (p.2 - 1) / 26) else p
def wst : Nat → List Nat × Nat → List Nat × Nat
  | 0, p => p
  | k + 1, p => wstep (wst k p)
def wordC (n : Nat) : List Nat := (wst 7 ([97 + n % 26], n / 26)).1
def wval (cs : List Nat) (r : Nat) : Nat := cs.foldl (fun a c => a * 26 + (c - 97) + 1) r
theorem wval_step (p : List Nat × Nat) : wval (wstep p).1 (wstep p).2 = wval p.1 p.2 := by
  unfold wstep
  split
  · rename_i h
    show wval p.1 ((p.2 - 1) / 26 * 26 + (97 + (p.2 - 1) % 26 - 97) + 1) = _
    congr 1
    omega
  · rfl
theorem wval_st (k : Nat) (p : List Nat × Nat) : wval (wst k p).1 (wst k p).2 = wval p.1 p.2 := by
  induction k with
  | zero => rfl
  | succ k ih => rw [wst, wval_step, ih]
theorem wstep_rest (p : List Nat × Nat) : (wstep p).2 ≤ p.2 / 26 := by
  unfold wstep
  split
  · exact Nat.div_le_div_right (by omega)
  · rename_i h
    show p.2 ≤ _
    omega
theorem wst_rest (k : Nat) (p : List Nat × Nat) : (wst k p).2 ≤ p.2 / 26 ^ k := by
  induction k with
  | zero => simp [wst]
  | succ k ih =>
    rw [wst]
    refine Nat.le_trans (wstep_rest _) ?_
    rw [Nat.pow_succ, ← Nat.div_div_eq_div_mul]
    exact Nat.div_le_div_right ih
theorem wordC_val {n : Nat} (h : n < 10000000) : wval (wordC n) 0 = n + 1 := by
  have h1 := wval_st 7 ([97 + n % 26], n / 26)
  have h2 := wst_rest 7 ([97 + n % 26], n / 26)
  have h3 : (n / 26) / 26 ^ 7 = 0 := Nat.div_eq_of_lt (by omega)
  have h4 : (wst 7 ([97 + n % 26], n / 26)).2 = 0 := by
    have : (wst 7 ([97 + n % 26], n / 26)).2 ≤ (n / 26) / 26 ^ 7 := h2
    omega
  rw [h4] at h1
  unfold wordC
  rw [h1]
  show n / 26 * 26 + (97 + n % 26 - 97) + 1 = _
  omega
theorem wordC_inj {n m : Nat} (hn : n < 10000000) (hm : m < 10000000) (h : wordC n = wordC m) : n = m := by
  have e := wordC_val hn
  rw [h, wordC_val hm] at e
  omega
theorem wst_az (k n : Nat) : ∀ c ∈ (wst k ([97 + n % 26], n / 26)).1, 97 ≤ c ∧ c ≤ 122 := by
  induction k with
  | zero =>
    intro c hc
    have : c = 97 + n % 26 := by simpa [wst] using hc
    omega
  | succ k ih =>
    intro c hc
    rw [wst] at hc
    unfold wstep at hc
    split at hc
    · rcases List.mem_cons.mp hc with rfl | hc
      · omega
      · exact ih c hc
    · exact ih c hc
theorem wst_stop (k : Nat) (p : List Nat × Nat) (h : p.2 = 0) : wst k p = p := by
  induction k with
  | zero => rfl
  | succ k ih =>
    rw [wst, ih]
    unfold wstep
    rw [if_neg (by omega)]
theorem wst_add (a b : Nat) (p : List Nat × Nat) : wst (a + b) p = wst b (wst a p) := by
  induction b with
  | zero => rfl
  | succ b ih => rw [← Nat.add_assoc, wst, wst, ih]
theorem wst_len (k : Nat) (p : List Nat × Nat) : (wst k p).1.length ≤ p.1.length + k := by
  induction k with
  | zero => exact Nat.le_refl _
  | succ k ih =>
    rw [wst]
    unfold wstep
    split
    · simp only [List.length_cons]; omega
    · omega
theorem wordC_len {n : Nat} (h : n < 17000) : 1 ≤ (wordC n).length ∧ (wordC n).length ≤ 3 := by
  constructor
  · have key : ∀ k, 1 ≤ (wst k ([97 + n % 26], n / 26)).1.length := by
      intro k
      induction k with
      | zero => simp [wst]
      | succ k ih =>
        rw [wst]
        unfold wstep
        split
        · simp
        · exact ih
    exact key 7
  · unfold wordC
    have e : wst 7 ([97 + n % 26], n / 26) = wst 5 (wst 2 ([97 + n % 26], n / 26)) := wst_add 2 5 _
    have z : (wst 2 ([97 + n % 26], n / 26)).2 = 0 := by
      show (wstep (wstep ([97 + n % 26], n / 26))).2 = 0
      have h1 : ∀ p : List Nat × Nat, p.2 ≤ 653 → (wstep p).2 ≤ 25 := by
        intro p hp
        unfold wstep
        split
        · show (p.2 - 1) / 26 ≤ 25; omega
        · omega
      have h2 : ∀ p : List Nat × Nat, p.2 ≤ 25 → (wstep p).2 = 0 := by
        intro p hp
        unfold wstep
        split
        · show (p.2 - 1) / 26 = 0; omega
        · omega
      exact h2 _ (h1 _ (by show n / 26 ≤ 653; omega))
    rw [e, wst_stop 5 _ z]
    have := wst_len 2 ([97 + n % 26], n / 26)
    simpa using this
/-! the order of data -/
theorem dataLt_trans {a b c : PyData} (h1 : PySem.W.dataLt a b = true) (h2 : PySem.W.dataLt b c = true) : PySem.W.dataLt a c = true := PyProof.Rows.lex_trans (O := PyProof.Rows.itemOrd) _ _ _ h1 h2
theorem dataLt_le {a b c : PyData} (h1 : PySem.W.dataLt b a = false) (h2 : PySem.W.dataLt c b = false) : PySem.W.dataLt c a = false := by
  cases h : PySem.W.dataLt c a with
  | false => rfl
  | true =>
    cases h3 : PySem.W.dataLt a b with
    | true => rw [dataLt_trans h h3] at h2; cases h2
    | false =>
      have e : PySem.W.keyToks a = PySem.W.keyToks b := PyProof.Rows.lex_total (O := PyProof.Rows.itemOrd) _ _ h3 h1
      have : PySem.W.dataLt c b = PySem.W.dataLt c a := by unfold PySem.W.dataLt; rw [e]
      rw [this, h] at h2
      cases h2
theorem dataLt_asym {a b : PyData} (h1 : PySem.W.dataLt a b = true) : PySem.W.dataLt b a = false := by
  cases h : PySem.W.dataLt b a with
  | false => rfl
  | true =>
    have := dataLt_trans h1 h
    unfold PySem.W.dataLt at this
    rw [PyProof.Rows.lex_irrefl] at this
    cases this
theorem leD_eq (a b : T) : leD a b = !PySem.W.dataLt b.toD a.toD := rfl
theorem geD_eq (a b : T) : geD a b = !PySem.W.dataLt a.toD b.toD := rfl
theorem leD_trans (a b c : T) (h1 : leD a b = true) (h2 : leD b c = true) : leD a c = true := by
  rw [leD_eq, Bool.not_eq_true'] at *
  exact dataLt_le h1 h2
theorem leD_total (a b : T) : (leD a b || leD b a) = true := by
  rw [leD_eq, leD_eq]
  cases h : PySem.W.dataLt b.toD a.toD with
  | false => rfl
  | true => rw [dataLt_asym h]; rfl
theorem leD_sorted (xs : List T) : (xs.mergeSort leD).Pairwise fun a b => leD a b = true := List.pairwise_mergeSort leD_trans leD_total xs
theorem geD_trans (a b c : T) (h1 : geD a b = true) (h2 : geD b c = true) : geD a c = true := by
  rw [geD_eq, Bool.not_eq_true'] at *
  exact dataLt_le h2 h1
theorem geD_total (a b : T) : (geD a b || geD b a) = true := by
  rw [geD_eq, geD_eq]
  cases h : PySem.W.dataLt a.toD b.toD with
  | false => rfl
  | true => rw [dataLt_asym h]; rfl
theorem geD_sorted (xs : List T) : (xs.mergeSort geD).Pairwise fun a b => geD a b = true := List.pairwise_mergeSort geD_trans geD_total xs
theorem sortL_data {o : Bool} {xs : List T} (h1 : intsT xs = none) (h2 : strsT xs = none) (h : sortOk xs = true) : opS .sortL [.lst o xs] = some (.lst true (xs.mergeSort leD)) := by
  show sortT [.lst o xs] = some (.lst true (xs.mergeSort leD))
  unfold sortT
  simp only [h1, h2, h, if_true]
end Kv

namespace Lw
open PySem PySem.Spec PyProof.Rows L2 Kv
def top (i : Nat) : Stmt := PySem.Challenge.pw_airwheel_k32_run_nearest_of_runs.main.body.getD i (.Pass ⟨0, 0, 0, 0⟩)
/-- is_whole -/
def b_is_whole : Sms := (.cons (.ret (.and (.op (.isT "int") (.v 0 .nil)) (.not (.op (.isT "bool") (.v 0 .nil))))) .nil)
def d_is_whole : Def := ⟨1, [false], b_is_whole, none⟩
abbrev s_is_whole : Stmt := top 19
abbrev i_is_whole : FInfo := ⟨"is_whole", ["value"], [false], [], true⟩
/-- refuse_above -/
def b_refuse_above : Sms := (.cons (.ite (.and (.callB 0 (.v 1 .nil)) (.op .gt (.v 1 (.v 2 .nil)))) (.cons (.rais 1 (.e (.var 0) (.e (.var 2) .nil))) .nil) .nil) .nil)
def d_refuse_above : Def := ⟨3, [false, false, false], b_refuse_above, none⟩
abbrev s_refuse_above : Stmt := top 20
abbrev i_refuse_above : FInfo := ⟨"refuse_above", ["name", "value", "high"], [false, false, false], [], true⟩
/-- refuse_outside -/
def b_refuse_outside : Sms := (.cons (.ite (.or (.not (.callB 0 (.v 1 .nil))) (.or (.op .lt (.v 1 (.v 2 .nil))) (.op .gt (.v 1 (.v 3 .nil))))) (.cons (.rais 2 (.e (.var 0) .nil)) .nil) .nil) .nil)
def d_refuse_outside : Def := ⟨4, [false, false, false, false], b_refuse_outside, none⟩
abbrev s_refuse_outside : Stmt := top 21
abbrev i_refuse_outside : FInfo := ⟨"refuse_outside", ["name", "value", "low", "high"], [false, false, false, false], [], true⟩
/-- check_ring -/
def b_check_ring : Sms := (.cons (.ex (.callB 1 (.e (.k (.str "slots")) (.v 0 (.e (.k (.int 240)) .nil))))) (.cons (.ex (.callB 2 (.e (.k (.str "slots")) (.v 0 (.e (.k (.int 1)) (.e (.k (.int 240)) .nil)))))) (.cons (.ex (.callB 2 (.e (.k (.str "many")) (.v 1 (.e (.k (.int 1)) (.v 0 .nil)))))) .nil)))
def d_check_ring : Def := ⟨2, [false, false], b_check_ring, none⟩
abbrev s_check_ring : Stmt := top 22
abbrev i_check_ring : FInfo := ⟨"check_ring", ["slots", "many"], [false, false], [], true⟩
/-- block_start -/
def b_block_start : Sms := (.cons (.ret (.op .add (.e (.op .mul (.v 2 (.e (.op .fdiv (.v 0 (.v 1 .nil))) .nil))) (.e (.op .min2 (.v 2 (.e (.op .mod (.v 0 (.v 1 .nil))) .nil))) .nil)))) .nil)
def d_block_start : Def := ⟨3, [false, false, false], b_block_start, none⟩
abbrev s_block_start : Stmt := top 23
abbrev i_block_start : FInfo := ⟨"block_start", ["slots", "many", "block"], [false, false, false], [], true⟩
/-- slot_in_thread -/
def b_slot_in_thread : Sms := (.cons (.ret (.op .add (.e (.callB 4 (.v 0 (.v 1 (.e (.op .mod (.v 2 (.v 1 .nil))) .nil)))) (.e (.op .fdiv (.v 2 (.v 1 .nil))) .nil)))) .nil)
def d_slot_in_thread : Def := ⟨3, [false, false, false], b_slot_in_thread, none⟩
abbrev s_slot_in_thread : Stmt := top 24
abbrev i_slot_in_thread : FInfo := ⟨"slot_in_thread", ["slots", "many", "place"], [false, false, false], [], true⟩
/-- slots_in_run -/
def b_slots_in_run : Sms := (.cons (.ret (.comp (.one 4) (.rng (.v 2 (.e (.op .add (.v 2 (.v 3 .nil))) .nil))) (.k (.bl true)) (.callB 5 (.v 0 (.v 1 (.v 4 .nil)))))) .nil)
def d_slots_in_run : Def := ⟨5, [false, false, false, false], b_slots_in_run, none⟩
abbrev s_slots_in_run : Stmt := top 25
abbrev i_slots_in_run : FInfo := ⟨"slots_in_run", ["slots", "many", "place", "length"], [false, false, false, false], [], true⟩
/-- check_run -/
def b_check_run : Sms := (.cons (.ex (.callB 3 (.v 0 (.v 1 .nil)))) (.cons (.ex (.callB 2 (.e (.k (.str "place")) (.v 2 (.e (.k (.int 0)) (.e (.op .sub (.v 0 (.e (.k (.int 1)) .nil))) .nil)))))) (.cons (.ex (.callB 2 (.e (.k (.str "length")) (.v 3 (.e (.k (.int 0)) (.e (.op .sub (.v 0 (.v 2 .nil))) .nil)))))) .nil)))
def d_check_run : Def := ⟨4, [false, false, false, false], b_check_run, none⟩
abbrev s_check_run : Stmt := top 26
abbrev i_check_run : FInfo := ⟨"check_run", ["slots", "many", "place", "length"], [false, false, false, false], [], true⟩
/-- run_nearest -/
def b_run_nearest : Sms := (.cons (.ex (.callB 7 (.v 0 (.v 1 (.v 2 (.v 3 .nil)))))) (.cons (.ite (.op .eq (.v 3 (.e (.k (.int 0)) .nil))) (.cons (.ret (.k (.int 0))) .nil) .nil) (.cons (.asg 4 (.op .sortL (.e (.callB 6 (.v 0 (.v 1 (.v 2 (.v 3 .nil))))) .nil))) (.cons (.asg 5 (.op .sub (.e (.op .add (.e (.op .idx (.v 4 (.e (.k (.int 0)) .nil))) (.v 0 .nil))) (.e (.op .idx (.v 4 (.e (.op .neg (.e (.k (.int 1)) .nil)) .nil))) .nil)))) (.cons (.loop (.many [6, 7]) (.zip (.e (.op (.slice false true) (.v 4 (.e (.op .neg (.e (.k (.int 1)) .nil)) .nil))) (.e (.op (.slice true false) (.v 4 (.e (.k (.int 1)) .nil))) .nil))) (.cons (.asg 5 (.op .min2 (.v 5 (.e (.op .sub (.v 7 (.v 6 .nil))) .nil)))) .nil)) (.cons (.ret (.mv 5)) .nil))))))
def d_run_nearest : Def := ⟨8, [false, false, false, false], b_run_nearest, none⟩
abbrev s_run_nearest : Stmt := top 27
abbrev i_run_nearest : FInfo := ⟨"run_nearest", ["slots", "many", "place", "length"], [false, false, false, false], [(0, ["slots", "many", "place", "length"], [0, 1, 2, 3], [])], true⟩
/-- _law_mix -/
def b__law_mix : Sms := (.cons (.asg 2 (.op .mod (.e (.op .add (.e (.op .add (.e (.op .mul (.e (.op .mod (.e (.op .toInt (.v 0 .nil)) (.e (.k (.int 2147483647)) .nil))) (.e (.k (.int 48271)) .nil))) (.e (.op .mul (.v 1 (.e (.k (.int 69621)) .nil))) .nil))) (.e (.k (.int 1234567)) .nil))) (.e (.k (.int 2147483647)) .nil)))) (.cons (.asg 3 (.op .mod (.e (.op .add (.e (.op .add (.e (.op .mul (.v 2 (.v 2 .nil))) (.e (.op .mul (.v 1 (.e (.k (.int 40692)) .nil))) .nil))) (.e (.op .fdiv (.v 2 (.e (.k (.int 4099)) .nil))) .nil))) (.e (.k (.int 2147483399)) .nil)))) (.cons (.ret (.op .mod (.e (.op .add (.e (.op .add (.e (.op .mul (.v 3 (.v 3 .nil))) (.e (.op .mul (.v 2 (.e (.k (.int 16807)) .nil))) .nil))) (.e (.op .fdiv (.v 3 (.e (.k (.int 997)) .nil))) .nil))) (.e (.k (.int 2147483399)) .nil)))) .nil)))
def d__law_mix : Def := ⟨4, [false, false], b__law_mix, none⟩
abbrev s__law_mix : Stmt := top 29
abbrev i__law_mix : FInfo := ⟨"_law_mix", ["cell", "turn"], [false, false], [], true⟩
/-- _law_store -/
def b__law_store : Sms := (.cons (.asg 1 (.op .toList (.v 0 .nil))) (.cons (.asg 2 (.k (.int 20011))) (.cons (.hldL 1 (.loop (.one 3) (.e (.var 1)) (.cons (.asg 2 (.callB 9 (.e (.op .add (.e (.op .mul (.v 2 (.e (.k (.int 31)) .nil))) (.e (.op .mod (.e (.op .toInt (.v 3 .nil)) (.e (.k (.int 2147483629)) .nil))) .nil))) (.e (.op .len (.v 1 .nil)) .nil)))) .nil))) (.cons (.ret (.lst (.e (.mv 1) (.e (.k (.int 0)) (.e (.k (.int 0)) (.e (.k (.int 0)) (.e (.mv 2) .nil))))))) .nil))))
def d__law_store : Def := ⟨4, [false], b__law_store, none⟩
abbrev s__law_store : Stmt := top 30
abbrev i__law_store : FInfo := ⟨"_law_store", ["script"], [false], [], true⟩
/-- _law_take -/
def b__law_take : Sms := (.cons (.ite (.op .lt (.v 1 (.e (.k (.int 2)) .nil))) (.cons (.ret (.k (.int 0))) .nil) .nil) (.cons (.ite (.and (.op .lt (.e (.pki 0 2) (.v 1 .nil))) (.op .lt (.e (.pki 0 1) (.e (.pkl 0 0) .nil)))) (.cons (.asg 2 (.op .toInt (.e (.pk2 0 0 1) .nil))) (.cons (.seti 0 (.k (.int 1)) (.op .add (.e (.pki 0 1) (.e (.k (.int 1)) .nil)))) (.cons (.seti 0 (.k (.int 2)) (.k (.int 0))) (.cons (.ite (.op .ge (.e (.op .abs (.v 2 .nil)) (.e (.op .pow (.e (.k (.int 10)) (.e (.k (.int 18)) .nil))) .nil))) (.cons (.seti 0 (.k (.int 2)) (.op .mod (.e (.op .abs (.v 2 .nil)) (.e (.op .pow (.e (.op .pow (.e (.k (.int 10)) (.e (.k (.int 64)) .nil))) (.e (.k (.int 16)) .nil))) .nil)))) .nil) .nil) (.cons (.ite (.op .lt (.e (.pki 0 2) (.v 1 .nil))) (.cons (.seti 0 (.k (.int 3)) (.op .add (.e (.pki 0 3) (.e (.k (.int 1)) .nil)))) (.cons (.ret (.op .mod (.e (.callB 9 (.e (.op .add (.v 2 (.e (.op .mul (.e (.k (.int 977)) (.e (.pki 0 3) .nil))) .nil))) (.e (.pki 0 3) .nil))) (.v 1 .nil)))) .nil)) .nil) .nil))))) .nil) (.cons (.ite (.op .ge (.e (.pki 0 2) (.v 1 .nil))) (.cons (.asg 3 (.op .mod (.e (.op .toInt (.e (.pki 0 2) .nil)) (.v 1 .nil)))) (.cons (.seti 0 (.k (.int 2)) (.op .fdiv (.e (.pki 0 2) (.v 1 .nil)))) (.cons (.ret (.mv 3)) .nil))) .nil) (.cons (.seti 0 (.k (.int 2)) (.k (.int 0))) (.cons (.seti 0 (.k (.int 3)) (.op .add (.e (.pki 0 3) (.e (.k (.int 1)) .nil)))) (.cons (.seti 0 (.k (.int 4)) (.callB 9 (.e (.pki 0 4) (.e (.pki 0 3) .nil)))) (.cons (.ret (.op .mod (.e (.op .toInt (.e (.pki 0 4) .nil)) (.v 1 .nil)))) .nil)))))))
def d__law_take : Def := ⟨4, [true, false], b__law_take, none⟩
abbrev s__law_take : Stmt := top 31
abbrev i__law_take : FInfo := ⟨"_law_take", ["store", "bound"], [true, false], [], true⟩
/-- _law_between -/
def b__law_between : Sms := (.cons (.ret (.op .add (.v 1 (.e (.callI 11 (.v 0 (.e (.op .add (.e (.op .sub (.v 2 (.v 1 .nil))) (.e (.k (.int 1)) .nil))) .nil))) .nil)))) .nil)
def d__law_between : Def := ⟨3, [true, false, false], b__law_between, none⟩
abbrev s__law_between : Stmt := top 32
abbrev i__law_between : FInfo := ⟨"_law_between", ["store", "low", "high"], [true, false, false], [], true⟩
/-- _law_chance -/
def b__law_chance : Sms := (.cons (.ret (.op .eq (.e (.callI 11 (.v 0 (.e (.var 1) .nil))) (.e (.k (.int 0)) .nil)))) .nil)
def d__law_chance : Def := ⟨2, [true, false], b__law_chance, none⟩
abbrev s__law_chance : Stmt := top 33
abbrev i__law_chance : FInfo := ⟨"_law_chance", ["store", "one_of"], [true, false], [], true⟩
/-- _law_edge -/
def b__law_edge : Sms := (.cons (.ite (.op .le (.v 2 (.v 1 .nil))) (.cons (.ret (.mv 1)) .nil) .nil) (.cons (.asg 3 (.callI 11 (.v 0 (.e (.k (.int 9)) .nil)))) (.cons (.ite (.op .eq (.v 3 (.e (.k (.int 0)) .nil))) (.cons (.ret (.mv 1)) .nil) .nil) (.cons (.ite (.op .eq (.v 3 (.e (.k (.int 1)) .nil))) (.cons (.ret (.mv 2)) .nil) .nil) (.cons (.ite (.op .eq (.v 3 (.e (.k (.int 2)) .nil))) (.cons (.ret (.op .add (.v 1 (.e (.k (.int 1)) .nil)))) .nil) .nil) (.cons (.ret (.callI 12 (.v 0 (.e (.var 1) (.e (.var 2) .nil))))) .nil))))))
def d__law_edge : Def := ⟨4, [true, false, false], b__law_edge, none⟩
abbrev s__law_edge : Stmt := top 34
abbrev i__law_edge : FInfo := ⟨"_law_edge", ["store", "low", "high"], [true, false, false], [], true⟩
/-- _law_size -/
def b__law_size : Sms := (.cons (.ite (.callI 13 (.v 0 (.e (.k (.int 8)) .nil))) (.cons (.ret (.callI 14 (.v 0 (.e (.var 1) (.e (.var 3) .nil))))) .nil) .nil) (.cons (.ret (.callI 14 (.v 0 (.e (.var 1) (.e (.var 2) .nil))))) .nil))
def d__law_size : Def := ⟨4, [true, false, false, false], b__law_size, none⟩
abbrev s__law_size : Stmt := top 35
abbrev i__law_size : FInfo := ⟨"_law_size", ["store", "low", "small", "large"], [true, false, false, false], [], true⟩
/-- _law_out_of -/
def b__law_out_of : Sms := (.cons (.asg 4 (.callI 11 (.v 0 (.e (.k (.int 6)) .nil)))) (.cons (.asg 5 (.op .add (.e (.k (.int 1)) (.e (.callI 11 (.v 0 (.e (.k (.int 1000)) .nil))) .nil)))) (.cons (.ite (.op .lt (.v 4 (.e (.k (.int 3)) .nil))) (.cons (.ret (.tup (.e (.op .add (.v 2 (.e (.op .idx (.e (.lst (.e (.k (.int 1)) (.e (.var 5) (.e (.op .pow (.e (.k (.int 10)) (.e (.k (.int 30)) .nil))) .nil)))) (.v 4 .nil))) .nil))) (.e (.tup (.e (.k (.str "TooLarge")) (.e (.var 3) (.e (.var 2) .nil)))) .nil)))) .nil) .nil) (.cons (.ite (.op .eq (.v 4 (.e (.k (.int 5)) .nil))) (.cons (.ret (.tup (.e (.op .idx (.e (.lst (.e (.k (.bl true)) (.e (.k (.bl false)) .nil))) (.e (.op .mod (.v 5 (.e (.k (.int 2)) .nil))) .nil))) (.e (.tup (.e (.k (.str "Malformed")) (.e (.var 3) .nil))) .nil)))) .nil) .nil) (.cons (.ret (.tup (.e (.op .sub (.v 1 (.e (.op .idx (.e (.lst (.e (.k (.int 1)) (.e (.var 5) .nil))) (.e (.op .sub (.v 4 (.e (.k (.int 3)) .nil))) .nil))) .nil))) (.e (.tup (.e (.k (.str "Malformed")) (.e (.var 3) .nil))) .nil)))) .nil)))))
def d__law_out_of : Def := ⟨6, [true, false, false, false], b__law_out_of, none⟩
abbrev s__law_out_of : Stmt := top 36
abbrev i__law_out_of : FInfo := ⟨"_law_out_of", ["store", "low", "high", "what"], [true, false, false, false], [], true⟩
/-- _law_out_of_place -/
def b__law_out_of_place : Sms := (.cons (.asg 2 (.callI 11 (.v 0 (.e (.k (.int 7)) .nil)))) (.cons (.asg 3 (.op .add (.e (.k (.int 1)) (.e (.callI 11 (.v 0 (.e (.k (.int 1000)) .nil))) .nil)))) (.cons (.ret (.op .idx (.e (.lst (.e (.var 1) (.e (.op .add (.v 1 (.v 3 .nil))) (.e (.op .pow (.e (.k (.int 10)) (.e (.k (.int 30)) .nil))) (.e (.op .neg (.e (.k (.int 1)) .nil)) (.e (.op .sub (.e (.k (.int 0)) (.v 1 .nil))) (.e (.op .sub (.e (.k (.int 0)) (.v 3 .nil))) (.e (.op .eq (.e (.op .mod (.v 3 (.e (.k (.int 2)) .nil))) (.e (.k (.int 0)) .nil))) .nil)))))))) (.v 2 .nil)))) .nil)))
def d__law_out_of_place : Def := ⟨4, [true, false], b__law_out_of_place, none⟩
abbrev s__law_out_of_place : Stmt := top 37
abbrev i__law_out_of_place : FInfo := ⟨"_law_out_of_place", ["store", "size"], [true, false], [], true⟩
/-- _law_is_whole -/
def b__law_is_whole : Sms := (.cons (.ret (.and (.op (.isT "int") (.v 0 .nil)) (.not (.op (.isT "bool") (.v 0 .nil))))) .nil)
def d__law_is_whole : Def := ⟨1, [false], b__law_is_whole, none⟩
abbrev s__law_is_whole : Stmt := top 38
abbrev i__law_is_whole : FInfo := ⟨"_law_is_whole", ["given"], [false], [], true⟩
/-- _law_same -/
def b__law_same : Sms := (.cons (.ite (.op .isN (.v 1 .nil)) (.cons (.ret (.op .isN (.v 0 .nil))) .nil) .nil) (.cons (.ite (.op (.isT "bool") (.v 1 .nil)) (.cons (.ret (.and (.op (.isT "bool") (.v 0 .nil)) (.op .eq (.v 0 (.v 1 .nil))))) .nil) .nil) (.cons (.ite (.op (.isT "int") (.v 1 .nil)) (.cons (.ret (.and (.callB 18 (.v 0 .nil)) (.op .eq (.v 0 (.v 1 .nil))))) .nil) .nil) (.cons (.ite (.op (.isT "str") (.v 1 .nil)) (.cons (.ret (.and (.op (.isT "str") (.v 0 .nil)) (.op .eq (.v 0 (.v 1 .nil))))) .nil) .nil) (.cons (.ite (.and (.op (.isT "list") (.v 1 .nil)) (.not (.op (.isT "list") (.v 0 .nil)))) (.cons (.ret (.k (.bl false))) .nil) .nil) (.cons (.ite (.and (.op (.isT "tuple") (.v 1 .nil)) (.not (.op (.isT "tuple") (.v 0 .nil)))) (.cons (.ret (.k (.bl false))) .nil) .nil) (.cons (.ite (.and (.not (.op (.isT "list") (.v 1 .nil))) (.not (.op (.isT "tuple") (.v 1 .nil)))) (.cons (.ret (.k (.bl false))) .nil) .nil) (.cons (.ite (.op .ne (.e (.op .len (.v 0 .nil)) (.e (.op .len (.v 1 .nil)) .nil))) (.cons (.ret (.k (.bl false))) .nil) .nil) (.cons (.loop (.one 2) (.rng (.e (.op .len (.v 1 .nil)) .nil)) (.cons (.ite (.not (.callB 19 (.e (.op .idx (.v 0 (.v 2 .nil))) (.e (.op .idx (.v 1 (.v 2 .nil))) .nil)))) (.cons (.ret (.k (.bl false))) .nil) .nil) .nil)) (.cons (.ret (.k (.bl true))) .nil))))))))))
def d__law_same : Def := ⟨3, [false, false], b__law_same, none⟩
abbrev s__law_same : Stmt := top 39
abbrev i__law_same : FInfo := ⟨"_law_same", ["given", "due"], [false, false], [], true⟩
/-- _law_got -/
def b__law_got : Sms := (.cons (.tryA (.cons (.ite (.op .truL (.v 4 .nil)) (.cons (.ret (.tup (.e (.k (.str "told")) (.e (.callK 8 0 [0, 1, 2, 3] [] (.v 0 (.v 1 (.v 2 (.v 3 .nil))))) .nil)))) .nil) .nil) (.cons (.ret (.tup (.e (.k (.str "told")) (.e (.callB 8 (.v 0 (.v 1 (.v 2 (.v 3 .nil))))) .nil)))) .nil)) 0 5 (.cons (.asg 6 (.lst (.e (.op (.isE [1]) (.v 5 .nil)) (.e (.op (.isE [2]) (.v 5 .nil)) (.e (.op (.isE [6]) (.v 5 .nil)) (.e (.op (.isE [8]) (.v 5 .nil)) .nil)))))) (.cons (.asg 6 (.op .add (.v 6 (.e (.lst (.e (.op (.isE [5]) (.v 5 .nil)) (.e (.op (.isE [7]) (.v 5 .nil)) (.e (.op (.isE [15]) (.v 5 .nil)) (.e (.op (.isE [14]) (.v 5 .nil)) .nil))))) .nil)))) (.cons (.asg 6 (.op .add (.v 6 (.e (.lst (.e (.op (.isE [3]) (.v 5 .nil)) (.e (.op (.isE [4]) (.v 5 .nil)) (.e (.op (.isE [9]) (.v 5 .nil)) (.e (.op (.isE [10]) (.v 5 .nil)) .nil))))) .nil)))) (.cons (.asg 6 (.op .add (.v 6 (.e (.lst (.e (.op (.isE [11]) (.v 5 .nil)) (.e (.op (.isE [12]) (.v 5 .nil)) (.e (.op (.isE [13]) (.v 5 .nil)) .nil)))) .nil)))) (.cons (.ite (.or (.op .ne (.e (.op .cntT (.v 6 .nil)) (.e (.k (.int 1)) .nil))) (.not (.op (.isE [0]) (.v 5 .nil)))) (.cons (.ret (.tup (.e (.k (.str "odd")) .nil))) .nil) .nil) (.cons (.ite (.op .idx (.v 6 (.e (.k (.int 0)) .nil))) (.cons (.ret (.tup (.e (.k (.str "TooLarge")) (.e (.op (.fld "what") (.v 5 .nil)) (.e (.op (.fld "limit") (.v 5 .nil)) .nil))))) .nil) .nil) (.cons (.ite (.op .idx (.v 6 (.e (.k (.int 1)) .nil))) (.cons (.ret (.tup (.e (.k (.str "Malformed")) (.e (.op (.fld "what") (.v 5 .nil)) .nil)))) .nil) .nil) .nil)))))))) (.cons (.ret (.tup (.e (.k (.str "odd")) .nil))) .nil))
def d__law_got : Def := ⟨7, [false, false, false, false, false], b__law_got, none⟩
abbrev s__law_got : Stmt := top 40
abbrev i__law_got : FInfo := ⟨"_law_got", ["slots", "blocks", "place", "length", "named"], [false, false, false, false, false], [], true⟩
/-- _law_thread -/
def b__law_thread : Sms := (.cons (.asg 2 (.lst .nil)) (.cons (.asg 3 (.k (.int 0))) (.cons (.loop (.one 4) (.rng (.v 1 .nil)) (.cons (.loop (.one 5) (.rng (.e (.op .add (.e (.op .fdiv (.v 0 (.v 1 .nil))) (.e (.op .toInt (.e (.op .lt (.v 4 (.e (.op .mod (.e (.op .toInt (.v 0 .nil)) (.v 1 .nil))) .nil))) .nil)) .nil))) .nil)) (.cons (.app 2 (.tup (.e (.var 5) (.e (.var 4) (.e (.var 3) .nil))))) (.cons (.asg 3 (.op .add (.v 3 (.e (.k (.int 1)) .nil)))) .nil))) .nil)) (.cons (.ret (.comp (.one 6) (.e (.op .sortL (.v 2 .nil))) (.k (.bl true)) (.op .idx (.v 6 (.e (.k (.int 2)) .nil))))) .nil))))
def d__law_thread : Def := ⟨7, [false, false], b__law_thread, none⟩
abbrev s__law_thread : Stmt := top 41
abbrev i__law_thread : FInfo := ⟨"_law_thread", ["slots", "blocks"], [false, false], [], true⟩
/-- _law_nearest -/
def b__law_nearest : Sms := (.cons (.ite (.op .eq (.v 2 (.e (.k (.int 0)) .nil))) (.cons (.ret (.k (.int 0))) .nil) .nil) (.cons (.asg 3 (.op .sortL (.e (.slv 0 (.var 1) (.op .add (.v 1 (.v 2 .nil)))) .nil))) (.cons (.asg 4 (.comp (.one 5) (.rng (.e (.op .sub (.v 2 (.e (.k (.int 1)) .nil))) .nil)) (.k (.bl true)) (.op .sub (.e (.op .idx (.v 3 (.e (.op .add (.v 5 (.e (.k (.int 1)) .nil))) .nil))) (.e (.op .idx (.v 3 (.v 5 .nil))) .nil))))) (.cons (.ret (.op .minL (.e (.op .add (.v 4 (.e (.lst (.e (.op .sub (.e (.op .add (.e (.op .idx (.v 3 (.e (.k (.int 0)) .nil))) (.e (.op .len (.v 0 .nil)) .nil))) (.e (.op .idx (.v 3 (.e (.op .sub (.v 2 (.e (.k (.int 1)) .nil))) .nil))) .nil))) .nil)) .nil))) .nil))) .nil))))
def d__law_nearest : Def := ⟨6, [false, false, false], b__law_nearest, none⟩
abbrev s__law_nearest : Stmt := top 42
abbrev i__law_nearest : FInfo := ⟨"_law_nearest", ["thread", "place", "length"], [false, false, false], [], true⟩
/-- _law_runs -/
def b__law_runs : Sms := (.cons (.asg 3 (.lst .nil)) (.cons (.ite (.op .le (.v 1 (.e (.k (.int 5)) .nil))) (.cons (.loop (.one 5) (.rng (.v 1 .nil)) (.cons (.asg 3 (.op .add (.v 3 (.e (.comp (.one 6) (.rng (.e (.op .add (.e (.op .sub (.v 1 (.v 5 .nil))) (.e (.k (.int 1)) .nil))) .nil)) (.k (.bl true)) (.tup (.e (.var 5) (.e (.var 6) .nil)))) .nil)))) .nil)) (.cons (.ret (.mv 3)) .nil)) .nil) (.cons (.loop (.one 4) (.rng (.e (.k (.int 4)) .nil)) (.cons (.asg 5 (.callI 11 (.v 0 (.e (.var 1) .nil)))) (.cons (.app 3 (.tup (.e (.var 5) (.e (.callI 14 (.v 0 (.e (.k (.int 0)) (.e (.op .sub (.v 1 (.v 5 .nil))) .nil)))) .nil)))) (.cons (.app 3 (.tup (.e (.var 5) (.e (.op .min2 (.e (.op .sub (.v 1 (.v 5 .nil))) (.e (.op .max2 (.e (.k (.int 0)) (.e (.op .sub (.v 2 (.e (.callI 11 (.v 0 (.e (.k (.int 3)) .nil))) .nil))) .nil))) .nil))) .nil)))) (.cons (.app 3 (.tup (.e (.op .mul (.v 2 (.e (.callI 11 (.v 0 (.e (.op .fdiv (.v 1 (.v 2 .nil))) .nil))) .nil))) (.e (.var 2) .nil)))) .nil))))) (.cons (.ret (.mv 3)) .nil))))
def d__law_runs : Def := ⟨7, [true, false, false], b__law_runs, none⟩
abbrev s__law_runs : Stmt := top 43
abbrev i__law_runs : FInfo := ⟨"_law_runs", ["store", "slots", "blocks"], [true, false, false], [], true⟩
/-- _law_faults -/
def b__law_faults : Sms := (.cons (.asg 4 (.lst (.e (.var 1) (.e (.var 2) (.e (.var 3) (.e (.callI 11 (.v 0 (.e (.op .add (.e (.op .sub (.v 1 (.v 3 .nil))) (.e (.k (.int 1)) .nil))) .nil))) .nil)))))) (.cons (.asg 5 (.lst .nil)) (.cons (.asg 6 (.callI 11 (.v 0 (.e (.k (.int 4)) .nil)))) (.cons (.loop (.one 7) (.e (.op (.slice false true) (.e (.lst (.e (.var 6) (.e (.op .mod (.e (.op .add (.e (.op .add (.v 6 (.e (.k (.int 1)) .nil))) (.e (.callI 11 (.v 0 (.e (.k (.int 3)) .nil))) .nil))) (.e (.k (.int 4)) .nil))) .nil))) (.e (.op .add (.e (.k (.int 1)) (.e (.callI 11 (.v 0 (.e (.k (.int 2)) .nil))) .nil))) .nil)))) (.cons (.ite (.op .eq (.v 7 (.e (.k (.int 0)) .nil))) (.cons (.asg 9 (.callI 16 (.v 0 (.e (.k (.int 1)) (.e (.k (.int 240)) (.e (.k (.str "slots")) .nil)))))) (.cons (.seti 4 (.k (.int 0)) (.op .idx (.v 9 (.e (.k (.int 0)) .nil)))) (.cons (.app 5 (.tup (.e (.op .mul (.e (.k (.int 10)) (.e (.op .toInt (.e (.op .eq (.e (.op .idx (.e (.op .idx (.v 9 (.e (.k (.int 1)) .nil))) (.e (.k (.int 0)) .nil))) (.e (.k (.str "Malformed")) .nil))) .nil)) .nil))) (.e (.op .idx (.v 9 (.e (.k (.int 1)) .nil))) .nil)))) .nil))) (.cons (.ite (.op .eq (.v 7 (.e (.k (.int 1)) .nil))) (.cons (.seti 4 (.k (.int 1)) (.callI 17 (.v 0 (.e (.op .add (.v 1 (.e (.k (.int 1)) .nil))) .nil)))) (.cons (.ite (.callI 13 (.v 0 (.e (.k (.int 4)) .nil))) (.cons (.seti 4 (.k (.int 1)) (.k (.int 0))) .nil) .nil) (.cons (.app 5 (.tup (.e (.k (.int 11)) (.e (.tup (.e (.k (.str "Malformed")) (.e (.k (.str "many")) .nil))) .nil)))) .nil))) (.cons (.ite (.op .eq (.v 7 (.e (.k (.int 2)) .nil))) (.cons (.seti 4 (.k (.int 2)) (.callI 17 (.v 0 (.e (.var 1) .nil)))) (.cons (.app 5 (.tup (.e (.k (.int 12)) (.e (.tup (.e (.k (.str "Malformed")) (.e (.k (.str "place")) .nil))) .nil)))) .nil)) (.cons (.seti 4 (.k (.int 3)) (.callI 17 (.v 0 (.e (.op .add (.e (.op .sub (.v 1 (.v 3 .nil))) (.e (.k (.int 1)) .nil))) .nil)))) (.cons (.app 5 (.tup (.e (.k (.int 13)) (.e (.tup (.e (.k (.str "Malformed")) (.e (.k (.str "length")) .nil))) .nil)))) .nil))) .nil)) .nil)) .nil)) (.cons (.asg 8 (.callB 20 (.e (.op .idx (.v 4 (.e (.k (.int 0)) .nil))) (.e (.op .idx (.v 4 (.e (.k (.int 1)) .nil))) (.e (.op .idx (.v 4 (.e (.k (.int 2)) .nil))) (.e (.op .idx (.v 4 (.e (.k (.int 3)) .nil))) (.e (.callI 13 (.v 0 (.e (.k (.int 2)) .nil))) .nil))))))) (.cons (.ret (.callB 19 (.v 8 (.e (.op .idx (.e (.op .minL (.v 5 .nil)) (.e (.k (.int 1)) .nil))) .nil)))) .nil))))))
def d__law_faults : Def := ⟨10, [true, false, false, false], b__law_faults, none⟩
abbrev s__law_faults : Stmt := top 44
abbrev i__law_faults : FInfo := ⟨"_law_faults", ["store", "slots", "blocks", "place"], [true, false, false, false], [], true⟩
/-- law -/
def b_law : Sms := (.cons (.asg 1 (.callI 10 (.e (.var 0) .nil))) (.cons (.asg 2 (.callI 15 (.v 1 (.e (.k (.int 1)) (.e (.k (.int 9)) (.e (.k (.int 240)) .nil)))))) (.cons (.asg 3 (.callI 14 (.v 1 (.e (.k (.int 1)) (.e (.var 2) .nil))))) (.cons (.ite (.callI 13 (.v 1 (.e (.k (.int 2)) .nil))) (.cons (.asg 3 (.callI 12 (.v 1 (.e (.k (.int 1)) (.e (.op .max2 (.e (.k (.int 1)) (.e (.op .fdiv (.v 2 (.e (.k (.int 2)) .nil))) .nil))) .nil))))) .nil) .nil) (.cons (.asg 4 (.callB 21 (.v 2 (.v 3 .nil)))) (.cons (.asg 5 (.callI 13 (.v 1 (.e (.k (.int 2)) .nil)))) (.cons (.asg 6 (.callI 23 (.v 1 (.e (.var 2) (.e (.var 3) .nil))))) (.cons (.loop (.one 7) (.e (.op .add (.v 6 (.e (.op (.slice false true) (.v 6 (.e (.k (.int 1)) .nil))) .nil)))) (.cons (.asg 9 (.callB 22 (.v 4 (.e (.op .idx (.v 7 (.e (.k (.int 0)) .nil))) (.e (.op .idx (.v 7 (.e (.k (.int 1)) .nil))) .nil))))) (.cons (.ite (.not (.callB 19 (.e (.callB 20 (.v 2 (.v 3 (.e (.op .idx (.v 7 (.e (.k (.int 0)) .nil))) (.e (.op .idx (.v 7 (.e (.k (.int 1)) .nil))) (.v 5 .nil)))))) (.e (.tup (.e (.k (.str "told")) (.e (.var 9) .nil))) .nil)))) (.cons (.ret (.k (.bl false))) .nil) .nil) (.cons (.asg 10 (.and (.op .eq (.e (.op .idx (.v 7 (.e (.k (.int 1)) .nil))) (.v 3 .nil))) (.and (.op .eq (.e (.op .mod (.e (.op .toInt (.e (.op .idx (.v 7 (.e (.k (.int 0)) .nil))) .nil)) (.v 3 .nil))) (.e (.k (.int 0)) .nil))) (.op .le (.e (.op .add (.e (.op .idx (.v 7 (.e (.k (.int 0)) .nil))) (.v 3 .nil))) (.e (.op .mul (.v 3 (.e (.op .fdiv (.v 2 (.v 3 .nil))) .nil))) .nil)))))) (.cons (.ite (.and (.op .lt (.v 9 (.e (.op .fdiv (.v 2 (.v 3 .nil))) .nil))) (.or (.op .truL (.v 10 .nil)) (.and (.op .le (.e (.k (.int 1)) (.e (.op .idx (.v 7 (.e (.k (.int 1)) .nil))) .nil))) (.op .lt (.e (.op .idx (.v 7 (.e (.k (.int 1)) .nil))) (.v 3 .nil)))))) (.cons (.ret (.k (.bl false))) .nil) .nil) .nil))))) (.cons (.loop (.one 8) (.rng (.e (.k (.int 3)) .nil)) (.cons (.ite (.not (.callI 24 (.v 1 (.e (.var 2) (.e (.var 3) (.e (.callI 11 (.v 1 (.e (.var 2) .nil))) .nil)))))) (.cons (.ret (.k (.bl false))) .nil) .nil) .nil)) (.cons (.ret (.callB 19 (.e (.callB 20 (.v 2 (.v 3 (.e (.k (.int 0)) (.v 2 (.v 5 .nil)))))) (.e (.tup (.e (.k (.str "told")) (.e (.k (.int 1)) .nil))) .nil)))) .nil))))))))))
def d_law : Def := ⟨11, [false], b_law, none⟩
abbrev s_law : Stmt := top 45
abbrev i_law : FInfo := ⟨"law", ["script"], [false], [], true⟩
abbrev fns : List FInfo := [i_is_whole, i_refuse_above, i_refuse_outside, i_check_ring, i_block_start, i_slot_in_thread, i_slots_in_run, i_check_run, i_run_nearest, i__law_mix, i__law_store, i__law_take, i__law_between, i__law_chance, i__law_edge, i__law_size, i__law_out_of, i__law_out_of_place, i__law_is_whole, i__law_same, i__law_got, i__law_thread, i__law_nearest, i__law_runs, i__law_faults, i_law]
def ds : List Def := [d_is_whole, d_refuse_above, d_refuse_outside, d_check_ring, d_block_start, d_slot_in_thread, d_slots_in_run, d_check_run, d_run_nearest, d__law_mix, d__law_store, d__law_take, d__law_between, d__law_chance, d__law_edge, d__law_size, d__law_out_of, d__law_out_of_place, d__law_is_whole, d__law_same, d__law_got, d__law_thread, d__law_nearest, d__law_runs, d__law_faults, d_law]
abbrev bi : List Str := ["ValueError", "abs", "bool", "int", "isinstance", "len", "list", "max", "min", "range", "sorted", "str", "tuple", "zip"]
abbrev cn : List (Str × T) := [("MOST_SLOTS", (.int 240))]
abbrev cls : List (Str × Nat) := [("AirError", 0), ("TooLarge", 1), ("Malformed", 2), ("BadLine", 3), ("BadDeed", 4), ("Shared", 5), ("Overfull", 6), ("NoPlan", 7), ("Crowded", 8), ("Packed", 9), ("Clash", 10), ("NoClass", 11), ("NotChain", 12), ("Overbooked", 13), ("OffClock", 14), ("NoFill", 15)]
abbrev hots : List Nat := []
abbrev Pg : Prg := ⟨fns, bi, cn, cls, hots, []⟩
theorem c_is_whole : chkSs Pg ⟨["value"], defScope s_is_whole, false, fun _ => true⟩ 60 (defBody s_is_whole) b_is_whole = true := by decide +kernel
theorem n_is_whole : FnScope ["value"] ["value"] (defScope s_is_whole) := ⟨rfl, rfl, rfl, by decide +kernel, rfl, by decide +kernel, by decide +kernel⟩
theorem c_refuse_above : chkSs Pg ⟨["name", "value", "high"], defScope s_refuse_above, false, fun _ => true⟩ 60 (defBody s_refuse_above) b_refuse_above = true := by decide +kernel
theorem n_refuse_above : FnScope ["name", "value", "high"] ["name", "value", "high"] (defScope s_refuse_above) := ⟨rfl, rfl, rfl, by decide +kernel, rfl, by decide +kernel, by decide +kernel⟩
theorem c_refuse_outside : chkSs Pg ⟨["name", "value", "low", "high"], defScope s_refuse_outside, false, fun _ => true⟩ 60 (defBody s_refuse_outside) b_refuse_outside = true := by decide +kernel
theorem n_refuse_outside : FnScope ["name", "value", "low", "high"] ["name", "value", "low", "high"] (defScope s_refuse_outside) := ⟨rfl, rfl, rfl, by decide +kernel, rfl, by decide +kernel, by decide +kernel⟩
theorem c_check_ring : chkSs Pg ⟨["slots", "many"], defScope s_check_ring, false, fun _ => true⟩ 60 (defBody s_check_ring) b_check_ring = true := by decide +kernel
theorem n_check_ring : FnScope ["slots", "many"] ["slots", "many"] (defScope s_check_ring) := ⟨rfl, rfl, rfl, by decide +kernel, rfl, by decide +kernel, by decide +kernel⟩
theorem c_block_start : chkSs Pg ⟨["slots", "many", "block"], defScope s_block_start, false, fun _ => true⟩ 60 (defBody s_block_start) b_block_start = true := by decide +kernel
theorem n_block_start : FnScope ["slots", "many", "block"] ["slots", "many", "block"] (defScope s_block_start) := ⟨rfl, rfl, rfl, by decide +kernel, rfl, by decide +kernel, by decide +kernel⟩
theorem c_slot_in_thread : chkSs Pg ⟨["slots", "many", "place"], defScope s_slot_in_thread, false, fun _ => true⟩ 60 (defBody s_slot_in_thread) b_slot_in_thread = true := by decide +kernel
theorem n_slot_in_thread : FnScope ["slots", "many", "place"] ["slots", "many", "place"] (defScope s_slot_in_thread) := ⟨rfl, rfl, rfl, by decide +kernel, rfl, by decide +kernel, by decide +kernel⟩
theorem c_slots_in_run : chkSs Pg ⟨["slots", "many", "place", "length", "at"], defScope s_slots_in_run, false, fun _ => true⟩ 60 (defBody s_slots_in_run) b_slots_in_run = true := by decide +kernel
theorem n_slots_in_run : FnScope ["slots", "many", "place", "length", "at"] ["slots", "many", "place", "length"] (defScope s_slots_in_run) := ⟨rfl, rfl, rfl, by decide +kernel, rfl, by decide +kernel, by decide +kernel⟩
theorem c_check_run : chkSs Pg ⟨["slots", "many", "place", "length"], defScope s_check_run, false, fun _ => true⟩ 60 (defBody s_check_run) b_check_run = true := by decide +kernel
theorem n_check_run : FnScope ["slots", "many", "place", "length"] ["slots", "many", "place", "length"] (defScope s_check_run) := ⟨rfl, rfl, rfl, by decide +kernel, rfl, by decide +kernel, by decide +kernel⟩
theorem c_run_nearest : chkSs Pg ⟨["slots", "many", "place", "length", "run", "nearest", "before", "after"], defScope s_run_nearest, false, fun _ => true⟩ 60 (defBody s_run_nearest) b_run_nearest = true := by decide +kernel
theorem n_run_nearest : FnScope ["slots", "many", "place", "length", "run", "nearest", "before", "after"] ["slots", "many", "place", "length"] (defScope s_run_nearest) := ⟨rfl, rfl, rfl, by decide +kernel, rfl, by decide +kernel, by decide +kernel⟩
theorem c__law_mix : chkSs Pg ⟨["cell", "turn", "first", "second"], defScope s__law_mix, false, fun _ => true⟩ 60 (defBody s__law_mix) b__law_mix = true := by decide +kernel
theorem n__law_mix : FnScope ["cell", "turn", "first", "second"] ["cell", "turn"] (defScope s__law_mix) := ⟨rfl, rfl, rfl, by decide +kernel, rfl, by decide +kernel, by decide +kernel⟩
theorem c__law_store : chkSs Pg ⟨["script", "cells", "seed", "cell"], defScope s__law_store, false, fun _ => true⟩ 60 (defBody s__law_store) b__law_store = true := by decide +kernel
theorem n__law_store : FnScope ["script", "cells", "seed", "cell"] ["script"] (defScope s__law_store) := ⟨rfl, rfl, rfl, by decide +kernel, rfl, by decide +kernel, by decide +kernel⟩
theorem c__law_take : chkSs Pg ⟨["store", "bound", "cell", "value"], defScope s__law_take, false, fun _ => true⟩ 60 (defBody s__law_take) b__law_take = true := by decide +kernel
theorem n__law_take : FnScope ["store", "bound", "cell", "value"] ["store", "bound"] (defScope s__law_take) := ⟨rfl, rfl, rfl, by decide +kernel, rfl, by decide +kernel, by decide +kernel⟩
theorem c__law_between : chkSs Pg ⟨["store", "low", "high"], defScope s__law_between, false, fun _ => true⟩ 60 (defBody s__law_between) b__law_between = true := by decide +kernel
theorem n__law_between : FnScope ["store", "low", "high"] ["store", "low", "high"] (defScope s__law_between) := ⟨rfl, rfl, rfl, by decide +kernel, rfl, by decide +kernel, by decide +kernel⟩
theorem c__law_chance : chkSs Pg ⟨["store", "one_of"], defScope s__law_chance, false, fun _ => true⟩ 60 (defBody s__law_chance) b__law_chance = true := by decide +kernel
theorem n__law_chance : FnScope ["store", "one_of"] ["store", "one_of"] (defScope s__law_chance) := ⟨rfl, rfl, rfl, by decide +kernel, rfl, by decide +kernel, by decide +kernel⟩
theorem c__law_edge : chkSs Pg ⟨["store", "low", "high", "choice"], defScope s__law_edge, false, fun _ => true⟩ 60 (defBody s__law_edge) b__law_edge = true := by decide +kernel
theorem n__law_edge : FnScope ["store", "low", "high", "choice"] ["store", "low", "high"] (defScope s__law_edge) := ⟨rfl, rfl, rfl, by decide +kernel, rfl, by decide +kernel, by decide +kernel⟩
theorem c__law_size : chkSs Pg ⟨["store", "low", "small", "large"], defScope s__law_size, false, fun _ => true⟩ 60 (defBody s__law_size) b__law_size = true := by decide +kernel
theorem n__law_size : FnScope ["store", "low", "small", "large"] ["store", "low", "small", "large"] (defScope s__law_size) := ⟨rfl, rfl, rfl, by decide +kernel, rfl, by decide +kernel, by decide +kernel⟩
theorem c__law_out_of : chkSs Pg ⟨["store", "low", "high", "what", "choice", "more"], defScope s__law_out_of, false, fun _ => true⟩ 60 (defBody s__law_out_of) b__law_out_of = true := by decide +kernel
theorem n__law_out_of : FnScope ["store", "low", "high", "what", "choice", "more"] ["store", "low", "high", "what"] (defScope s__law_out_of) := ⟨rfl, rfl, rfl, by decide +kernel, rfl, by decide +kernel, by decide +kernel⟩
theorem c__law_out_of_place : chkSs Pg ⟨["store", "size", "choice", "more"], defScope s__law_out_of_place, false, fun _ => true⟩ 60 (defBody s__law_out_of_place) b__law_out_of_place = true := by decide +kernel
theorem n__law_out_of_place : FnScope ["store", "size", "choice", "more"] ["store", "size"] (defScope s__law_out_of_place) := ⟨rfl, rfl, rfl, by decide +kernel, rfl, by decide +kernel, by decide +kernel⟩
theorem c__law_is_whole : chkSs Pg ⟨["given"], defScope s__law_is_whole, false, fun _ => true⟩ 60 (defBody s__law_is_whole) b__law_is_whole = true := by decide +kernel
theorem n__law_is_whole : FnScope ["given"] ["given"] (defScope s__law_is_whole) := ⟨rfl, rfl, rfl, by decide +kernel, rfl, by decide +kernel, by decide +kernel⟩
theorem c__law_same : chkSs Pg ⟨["given", "due", "k"], defScope s__law_same, false, fun _ => true⟩ 60 (defBody s__law_same) b__law_same = true := by decide +kernel
theorem n__law_same : FnScope ["given", "due", "k"] ["given", "due"] (defScope s__law_same) := ⟨rfl, rfl, rfl, by decide +kernel, rfl, by decide +kernel, by decide +kernel⟩
theorem c__law_got : chkSs Pg ⟨["slots", "blocks", "place", "length", "named", "e", "kinds"], defScope s__law_got, false, fun _ => true⟩ 60 (defBody s__law_got) b__law_got = true := by decide +kernel
theorem n__law_got : FnScope ["slots", "blocks", "place", "length", "named", "e", "kinds"] ["slots", "blocks", "place", "length", "named"] (defScope s__law_got) := ⟨rfl, rfl, rfl, by decide +kernel, rfl, by decide +kernel, by decide +kernel⟩
theorem c__law_thread : chkSs Pg ⟨["slots", "blocks", "cells", "slot", "block", "column", "cell"], defScope s__law_thread, false, fun _ => true⟩ 60 (defBody s__law_thread) b__law_thread = true := by decide +kernel
theorem n__law_thread : FnScope ["slots", "blocks", "cells", "slot", "block", "column", "cell"] ["slots", "blocks"] (defScope s__law_thread) := ⟨rfl, rfl, rfl, by decide +kernel, rfl, by decide +kernel, by decide +kernel⟩
theorem c__law_nearest : chkSs Pg ⟨["thread", "place", "length", "run", "steps", "k"], defScope s__law_nearest, false, fun _ => true⟩ 60 (defBody s__law_nearest) b__law_nearest = true := by decide +kernel
theorem n__law_nearest : FnScope ["thread", "place", "length", "run", "steps", "k"] ["thread", "place", "length"] (defScope s__law_nearest) := ⟨rfl, rfl, rfl, by decide +kernel, rfl, by decide +kernel, by decide +kernel⟩
theorem c__law_runs : chkSs Pg ⟨["store", "slots", "blocks", "runs", "k", "place", "length"], defScope s__law_runs, false, fun _ => true⟩ 60 (defBody s__law_runs) b__law_runs = true := by decide +kernel
theorem n__law_runs : FnScope ["store", "slots", "blocks", "runs", "k", "place", "length"] ["store", "slots", "blocks"] (defScope s__law_runs) := ⟨rfl, rfl, rfl, by decide +kernel, rfl, by decide +kernel, by decide +kernel⟩
theorem c__law_faults : chkSs Pg ⟨["store", "slots", "blocks", "place", "given", "faults", "first", "k", "told", "bent"], defScope s__law_faults, false, fun _ => true⟩ 60 (defBody s__law_faults) b__law_faults = true := by decide +kernel
theorem n__law_faults : FnScope ["store", "slots", "blocks", "place", "given", "faults", "first", "k", "told", "bent"] ["store", "slots", "blocks", "place"] (defScope s__law_faults) := ⟨rfl, rfl, rfl, by decide +kernel, rfl, by decide +kernel, by decide +kernel⟩
theorem c_law : chkSs Pg ⟨["script", "store", "slots", "blocks", "thread", "named", "runs", "run", "k", "due", "whole"], defScope s_law, false, fun _ => true⟩ 60 (defBody s_law) b_law = true := by decide +kernel
theorem n_law : FnScope ["script", "store", "slots", "blocks", "thread", "named", "runs", "run", "k", "due", "whole"] ["script"] (defScope s_law) := ⟨rfl, rfl, rfl, by decide +kernel, rfl, by decide +kernel, by decide +kernel⟩
theorem ci_1 {K : PySem.W.Frag} {A I : Addr} (n : PySem.W.findIn K (.ref A) "__init__" = some (some (.ref I))) (t : PySem.W.typeIn K (.ref I) = some (.type "function")) (m : FnF K "__init__" "TooLarge.__init__" (clsInit (top 2)) I) : CIn K A "TooLarge.__init__" (clsInit (top 2)) 1 :=
  ⟨⟨I, n, t, m⟩, fun _ _ _ _ _ _ us hl => match us, hl with | [_, _, _], _ => rfl, ⟨rfl, rfl, rfl, by decide +kernel, rfl, by decide +kernel, by decide +kernel⟩, by decide +kernel, by decide⟩
theorem ci_2 {K : PySem.W.Frag} {A I : Addr} (n : PySem.W.findIn K (.ref A) "__init__" = some (some (.ref I))) (t : PySem.W.typeIn K (.ref I) = some (.type "function")) (m : FnF K "__init__" "Malformed.__init__" (clsInit (top 3)) I) : CIn K A "Malformed.__init__" (clsInit (top 3)) 2 :=
  ⟨⟨I, n, t, m⟩, fun _ _ _ _ _ _ us hl => match us, hl with | [_, _], _ => rfl, ⟨rfl, rfl, rfl, by decide +kernel, rfl, by decide +kernel, by decide +kernel⟩, by decide +kernel, by decide⟩
theorem ci_3 {K : PySem.W.Frag} {A I : Addr} (n : PySem.W.findIn K (.ref A) "__init__" = some (some (.ref I))) (t : PySem.W.typeIn K (.ref I) = some (.type "function")) (m : FnF K "__init__" "BadLine.__init__" (clsInit (top 4)) I) : CIn K A "BadLine.__init__" (clsInit (top 4)) 3 :=
  ⟨⟨I, n, t, m⟩, fun _ _ _ _ _ _ us hl => match us, hl with | [_, _], _ => rfl, ⟨rfl, rfl, rfl, by decide +kernel, rfl, by decide +kernel, by decide +kernel⟩, by decide +kernel, by decide⟩
theorem ci_4 {K : PySem.W.Frag} {A I : Addr} (n : PySem.W.findIn K (.ref A) "__init__" = some (some (.ref I))) (t : PySem.W.typeIn K (.ref I) = some (.type "function")) (m : FnF K "__init__" "BadDeed.__init__" (clsInit (top 5)) I) : CIn K A "BadDeed.__init__" (clsInit (top 5)) 4 :=
  ⟨⟨I, n, t, m⟩, fun _ _ _ _ _ _ us hl => match us, hl with | [_, _], _ => rfl, ⟨rfl, rfl, rfl, by decide +kernel, rfl, by decide +kernel, by decide +kernel⟩, by decide +kernel, by decide⟩
theorem ci_5 {K : PySem.W.Frag} {A I : Addr} (n : PySem.W.findIn K (.ref A) "__init__" = some (some (.ref I))) (t : PySem.W.typeIn K (.ref I) = some (.type "function")) (m : FnF K "__init__" "Shared.__init__" (clsInit (top 6)) I) : CIn K A "Shared.__init__" (clsInit (top 6)) 5 :=
  ⟨⟨I, n, t, m⟩, fun _ _ _ _ _ _ us hl => match us, hl with | [_, _], _ => rfl, ⟨rfl, rfl, rfl, by decide +kernel, rfl, by decide +kernel, by decide +kernel⟩, by decide +kernel, by decide⟩
theorem ci_6 {K : PySem.W.Frag} {A I : Addr} (n : PySem.W.findIn K (.ref A) "__init__" = some (some (.ref I))) (t : PySem.W.typeIn K (.ref I) = some (.type "function")) (m : FnF K "__init__" "Overfull.__init__" (clsInit (top 7)) I) : CIn K A "Overfull.__init__" (clsInit (top 7)) 6 :=
  ⟨⟨I, n, t, m⟩, fun _ _ _ _ _ _ us hl => match us, hl with | [_, _, _], _ => rfl, ⟨rfl, rfl, rfl, by decide +kernel, rfl, by decide +kernel, by decide +kernel⟩, by decide +kernel, by decide⟩
theorem ci_7 {K : PySem.W.Frag} {A I : Addr} (n : PySem.W.findIn K (.ref A) "__init__" = some (some (.ref I))) (t : PySem.W.typeIn K (.ref I) = some (.type "function")) (m : FnF K "__init__" "NoPlan.__init__" (clsInit (top 8)) I) : CIn K A "NoPlan.__init__" (clsInit (top 8)) 7 :=
  ⟨⟨I, n, t, m⟩, fun _ _ _ _ _ _ us hl => match us, hl with | [_, _], _ => rfl, ⟨rfl, rfl, rfl, by decide +kernel, rfl, by decide +kernel, by decide +kernel⟩, by decide +kernel, by decide⟩
theorem ci_8 {K : PySem.W.Frag} {A I : Addr} (n : PySem.W.findIn K (.ref A) "__init__" = some (some (.ref I))) (t : PySem.W.typeIn K (.ref I) = some (.type "function")) (m : FnF K "__init__" "Crowded.__init__" (clsInit (top 9)) I) : CIn K A "Crowded.__init__" (clsInit (top 9)) 8 :=
  ⟨⟨I, n, t, m⟩, fun _ _ _ _ _ _ us hl => match us, hl with | [_, _, _, _, _], _ => rfl, ⟨rfl, rfl, rfl, by decide +kernel, rfl, by decide +kernel, by decide +kernel⟩, by decide +kernel, by decide⟩
theorem ci_10 {K : PySem.W.Frag} {A I : Addr} (n : PySem.W.findIn K (.ref A) "__init__" = some (some (.ref I))) (t : PySem.W.typeIn K (.ref I) = some (.type "function")) (m : FnF K "__init__" "Clash.__init__" (clsInit (top 11)) I) : CIn K A "Clash.__init__" (clsInit (top 11)) 10 :=
  ⟨⟨I, n, t, m⟩, fun _ _ _ _ _ _ us hl => match us, hl with | [_, _, _, _], _ => rfl, ⟨rfl, rfl, rfl, by decide +kernel, rfl, by decide +kernel, by decide +kernel⟩, by decide +kernel, by decide⟩
theorem ci_11 {K : PySem.W.Frag} {A I : Addr} (n : PySem.W.findIn K (.ref A) "__init__" = some (some (.ref I))) (t : PySem.W.typeIn K (.ref I) = some (.type "function")) (m : FnF K "__init__" "NoClass.__init__" (clsInit (top 12)) I) : CIn K A "NoClass.__init__" (clsInit (top 12)) 11 :=
  ⟨⟨I, n, t, m⟩, fun _ _ _ _ _ _ us hl => match us, hl with | [_, _, _], _ => rfl, ⟨rfl, rfl, rfl, by decide +kernel, rfl, by decide +kernel, by decide +kernel⟩, by decide +kernel, by decide⟩
theorem ci_12 {K : PySem.W.Frag} {A I : Addr} (n : PySem.W.findIn K (.ref A) "__init__" = some (some (.ref I))) (t : PySem.W.typeIn K (.ref I) = some (.type "function")) (m : FnF K "__init__" "NotChain.__init__" (clsInit (top 13)) I) : CIn K A "NotChain.__init__" (clsInit (top 13)) 12 :=
  ⟨⟨I, n, t, m⟩, fun _ _ _ _ _ _ us hl => match us, hl with | [_, _, _], _ => rfl, ⟨rfl, rfl, rfl, by decide +kernel, rfl, by decide +kernel, by decide +kernel⟩, by decide +kernel, by decide⟩
theorem ci_13 {K : PySem.W.Frag} {A I : Addr} (n : PySem.W.findIn K (.ref A) "__init__" = some (some (.ref I))) (t : PySem.W.typeIn K (.ref I) = some (.type "function")) (m : FnF K "__init__" "Overbooked.__init__" (clsInit (top 14)) I) : CIn K A "Overbooked.__init__" (clsInit (top 14)) 13 :=
  ⟨⟨I, n, t, m⟩, fun _ _ _ _ _ _ us hl => match us, hl with | [_, _, _], _ => rfl, ⟨rfl, rfl, rfl, by decide +kernel, rfl, by decide +kernel, by decide +kernel⟩, by decide +kernel, by decide⟩
theorem ci_14 {K : PySem.W.Frag} {A I : Addr} (n : PySem.W.findIn K (.ref A) "__init__" = some (some (.ref I))) (t : PySem.W.typeIn K (.ref I) = some (.type "function")) (m : FnF K "__init__" "OffClock.__init__" (clsInit (top 15)) I) : CIn K A "OffClock.__init__" (clsInit (top 15)) 14 :=
  ⟨⟨I, n, t, m⟩, fun _ _ _ _ _ _ us hl => match us, hl with | [_, _, _, _, _], _ => rfl, ⟨rfl, rfl, rfl, by decide +kernel, rfl, by decide +kernel, by decide +kernel⟩, by decide +kernel, by decide⟩
theorem ci_15 {K : PySem.W.Frag} {A I : Addr} (n : PySem.W.findIn K (.ref A) "__init__" = some (some (.ref I))) (t : PySem.W.typeIn K (.ref I) = some (.type "function")) (m : FnF K "__init__" "NoFill.__init__" (clsInit (top 16)) I) : CIn K A "NoFill.__init__" (clsInit (top 16)) 15 :=
  ⟨⟨I, n, t, m⟩, fun _ _ _ _ _ _ us hl => match us, hl with | [_, _, _], _ => rfl, ⟨rfl, rfl, rfl, by decide +kernel, rfl, by decide +kernel, by decide +kernel⟩, by decide +kernel, by decide⟩
theorem bn_is_whole : KdV "is_whole" s_is_whole ["value"] [] [] (1, [], [0], []) := kdv_A fun _ _ _ _ _ _ us ws h1 h2 => match us, h1, ws, h2 with | [_], _, [], _ => rfl
theorem bn_refuse_above : KdV "refuse_above" s_refuse_above ["name", "value", "high"] [] [] (3, [], [0, 1, 2], []) := kdv_A fun _ _ _ _ _ _ us ws h1 h2 => match us, h1, ws, h2 with | [_, _, _], _, [], _ => rfl
theorem bn_refuse_outside : KdV "refuse_outside" s_refuse_outside ["name", "value", "low", "high"] [] [] (4, [], [0, 1, 2, 3], []) := kdv_A fun _ _ _ _ _ _ us ws h1 h2 => match us, h1, ws, h2 with | [_, _, _, _], _, [], _ => rfl
theorem bn_check_ring : KdV "check_ring" s_check_ring ["slots", "many"] [] [] (2, [], [0, 1], []) := kdv_A fun _ _ _ _ _ _ us ws h1 h2 => match us, h1, ws, h2 with | [_, _], _, [], _ => rfl
theorem bn_block_start : KdV "block_start" s_block_start ["slots", "many", "block"] [] [] (3, [], [0, 1, 2], []) := kdv_A fun _ _ _ _ _ _ us ws h1 h2 => match us, h1, ws, h2 with | [_, _, _], _, [], _ => rfl
theorem bn_slot_in_thread : KdV "slot_in_thread" s_slot_in_thread ["slots", "many", "place"] [] [] (3, [], [0, 1, 2], []) := kdv_A fun _ _ _ _ _ _ us ws h1 h2 => match us, h1, ws, h2 with | [_, _, _], _, [], _ => rfl
theorem bn_slots_in_run : KdV "slots_in_run" s_slots_in_run ["slots", "many", "place", "length"] [] [] (4, [], [0, 1, 2, 3], []) := kdv_A fun _ _ _ _ _ _ us ws h1 h2 => match us, h1, ws, h2 with | [_, _, _, _], _, [], _ => rfl
theorem bn_check_run : KdV "check_run" s_check_run ["slots", "many", "place", "length"] [] [] (4, [], [0, 1, 2, 3], []) := kdv_A fun _ _ _ _ _ _ us ws h1 h2 => match us, h1, ws, h2 with | [_, _, _, _], _, [], _ => rfl
theorem bw_run_nearest_0 : KdV "run_nearest" s_run_nearest ["slots", "many", "place", "length"] [] [] (0, ["slots", "many", "place", "length"], [0, 1, 2, 3], []) := kdv_A fun _ _ _ _ _ _ us ws h1 h2 => match us, h1, ws, h2 with | [], _, [_, _, _, _], _ => rfl
theorem bn_run_nearest : KdV "run_nearest" s_run_nearest ["slots", "many", "place", "length"] [] [] (4, [], [0, 1, 2, 3], []) := kdv_A fun _ _ _ _ _ _ us ws h1 h2 => match us, h1, ws, h2 with | [_, _, _, _], _, [], _ => rfl
theorem bn__law_mix : KdV "_law_mix" s__law_mix ["cell", "turn"] [] [] (2, [], [0, 1], []) := kdv_A fun _ _ _ _ _ _ us ws h1 h2 => match us, h1, ws, h2 with | [_, _], _, [], _ => rfl
theorem bn__law_store : KdV "_law_store" s__law_store ["script"] [] [] (1, [], [0], []) := kdv_A fun _ _ _ _ _ _ us ws h1 h2 => match us, h1, ws, h2 with | [_], _, [], _ => rfl
theorem bn__law_take : KdV "_law_take" s__law_take ["store", "bound"] [] [] (2, [], [0, 1], []) := kdv_A fun _ _ _ _ _ _ us ws h1 h2 => match us, h1, ws, h2 with | [_, _], _, [], _ => rfl
theorem bn__law_between : KdV "_law_between" s__law_between ["store", "low", "high"] [] [] (3, [], [0, 1, 2], []) := kdv_A fun _ _ _ _ _ _ us ws h1 h2 => match us, h1, ws, h2 with | [_, _, _], _, [], _ => rfl
theorem bn__law_chance : KdV "_law_chance" s__law_chance ["store", "one_of"] [] [] (2, [], [0, 1], []) := kdv_A fun _ _ _ _ _ _ us ws h1 h2 => match us, h1, ws, h2 with | [_, _], _, [], _ => rfl
theorem bn__law_edge : KdV "_law_edge" s__law_edge ["store", "low", "high"] [] [] (3, [], [0, 1, 2], []) := kdv_A fun _ _ _ _ _ _ us ws h1 h2 => match us, h1, ws, h2 with | [_, _, _], _, [], _ => rfl
theorem bn__law_size : KdV "_law_size" s__law_size ["store", "low", "small", "large"] [] [] (4, [], [0, 1, 2, 3], []) := kdv_A fun _ _ _ _ _ _ us ws h1 h2 => match us, h1, ws, h2 with | [_, _, _, _], _, [], _ => rfl
theorem bn__law_out_of : KdV "_law_out_of" s__law_out_of ["store", "low", "high", "what"] [] [] (4, [], [0, 1, 2, 3], []) := kdv_A fun _ _ _ _ _ _ us ws h1 h2 => match us, h1, ws, h2 with | [_, _, _, _], _, [], _ => rfl
theorem bn__law_out_of_place : KdV "_law_out_of_place" s__law_out_of_place ["store", "size"] [] [] (2, [], [0, 1], []) := kdv_A fun _ _ _ _ _ _ us ws h1 h2 => match us, h1, ws, h2 with | [_, _], _, [], _ => rfl
theorem bn__law_is_whole : KdV "_law_is_whole" s__law_is_whole ["given"] [] [] (1, [], [0], []) := kdv_A fun _ _ _ _ _ _ us ws h1 h2 => match us, h1, ws, h2 with | [_], _, [], _ => rfl
theorem bn__law_same : KdV "_law_same" s__law_same ["given", "due"] [] [] (2, [], [0, 1], []) := kdv_A fun _ _ _ _ _ _ us ws h1 h2 => match us, h1, ws, h2 with | [_, _], _, [], _ => rfl
theorem bn__law_got : KdV "_law_got" s__law_got ["slots", "blocks", "place", "length", "named"] [] [] (5, [], [0, 1, 2, 3, 4], []) := kdv_A fun _ _ _ _ _ _ us ws h1 h2 => match us, h1, ws, h2 with | [_, _, _, _, _], _, [], _ => rfl
theorem bn__law_thread : KdV "_law_thread" s__law_thread ["slots", "blocks"] [] [] (2, [], [0, 1], []) := kdv_A fun _ _ _ _ _ _ us ws h1 h2 => match us, h1, ws, h2 with | [_, _], _, [], _ => rfl
theorem bn__law_nearest : KdV "_law_nearest" s__law_nearest ["thread", "place", "length"] [] [] (3, [], [0, 1, 2], []) := kdv_A fun _ _ _ _ _ _ us ws h1 h2 => match us, h1, ws, h2 with | [_, _, _], _, [], _ => rfl
theorem bn__law_runs : KdV "_law_runs" s__law_runs ["store", "slots", "blocks"] [] [] (3, [], [0, 1, 2], []) := kdv_A fun _ _ _ _ _ _ us ws h1 h2 => match us, h1, ws, h2 with | [_, _, _], _, [], _ => rfl
theorem bn__law_faults : KdV "_law_faults" s__law_faults ["store", "slots", "blocks", "place"] [] [] (4, [], [0, 1, 2, 3], []) := kdv_A fun _ _ _ _ _ _ us ws h1 h2 => match us, h1, ws, h2 with | [_, _, _, _], _, [], _ => rfl
theorem bn_law : KdV "law" s_law ["script"] [] [] (1, [], [0], []) := kdv_A fun _ _ _ _ _ _ us ws h1 h2 => match us, h1, ws, h2 with | [_], _, [], _ => rfl
theorem bn_law0 {K : PySem.W.Frag} (dV : Value) (hD : DflV K dV (([] : List T).map Kdv)) (kV doc pm : Value) (an : Option Addr) (cdv ct : Value) (s : Shared) (u : Value) : BindsTo s (PySem.W.fnOf "law" "law" (defArgs s_law) (defBody s_law) (defScope s_law) dV kV doc pm an cdv ct) ⟨[u], []⟩ [("script", u)] := by
  rcases hD with ⟨_, rfl⟩ | ⟨e, _⟩
  · exact .of_eq rfl
  · exact absurd rfl e
theorem facts {P : Program} {w : World} {K : PySem.W.Frag} {h : Heap} {mg : Str → Option Value} {fa : Addr} {C0 C1 C2 C3 C4 C5 C6 C7 C8 C9 C10 C11 C12 C13 C14 C15 : Addr} {f_is_whole f_refuse_above f_refuse_outside f_check_ring f_block_start f_slot_in_thread f_slots_in_run f_check_run f_run_nearest f__law_mix f__law_store f__law_take f__law_between f__law_chance f__law_edge f__law_size f__law_out_of f__law_out_of_place f__law_is_whole f__law_same f__law_got f__law_thread f__law_nearest f__law_runs f__law_faults f_law : Addr} {I1 I2 I3 I4 I5 I6 I7 I8 I10 I11 I12 I13 I14 I15 : Addr} {tk_MOST_SLOTS : Tok} (X : K.In h) (G : h.Ns mainGlobals mg) (hfa : mg "law" = some (.ref fa))
    (aC0 : PySem.W.nsIn K mainGlobals "AirError" = some (some (.ref C0)))
    (aC1 : PySem.W.nsIn K mainGlobals "TooLarge" = some (some (.ref C1)))
    (aC2 : PySem.W.nsIn K mainGlobals "Malformed" = some (some (.ref C2)))
    (aC3 : PySem.W.nsIn K mainGlobals "BadLine" = some (some (.ref C3)))
    (aC4 : PySem.W.nsIn K mainGlobals "BadDeed" = some (some (.ref C4)))
    (aC5 : PySem.W.nsIn K mainGlobals "Shared" = some (some (.ref C5)))
    (aC6 : PySem.W.nsIn K mainGlobals "Overfull" = some (some (.ref C6)))
    (aC7 : PySem.W.nsIn K mainGlobals "NoPlan" = some (some (.ref C7)))
    (aC8 : PySem.W.nsIn K mainGlobals "Crowded" = some (some (.ref C8)))
    (aC9 : PySem.W.nsIn K mainGlobals "Packed" = some (some (.ref C9)))
    (aC10 : PySem.W.nsIn K mainGlobals "Clash" = some (some (.ref C10)))
    (aC11 : PySem.W.nsIn K mainGlobals "NoClass" = some (some (.ref C11)))
    (aC12 : PySem.W.nsIn K mainGlobals "NotChain" = some (some (.ref C12)))
    (aC13 : PySem.W.nsIn K mainGlobals "Overbooked" = some (some (.ref C13)))
    (aC14 : PySem.W.nsIn K mainGlobals "OffClock" = some (some (.ref C14)))
    (aC15 : PySem.W.nsIn K mainGlobals "NoFill" = some (some (.ref C15)))
    (a_is_whole : PySem.W.nsIn K mainGlobals "is_whole" = some (some (.ref f_is_whole)))
    (l_is_whole : FnV K "is_whole" s_is_whole [] [] f_is_whole)
    (a_refuse_above : PySem.W.nsIn K mainGlobals "refuse_above" = some (some (.ref f_refuse_above)))
    (l_refuse_above : FnV K "refuse_above" s_refuse_above [] [] f_refuse_above)
    (a_refuse_outside : PySem.W.nsIn K mainGlobals "refuse_outside" = some (some (.ref f_refuse_outside)))
    (l_refuse_outside : FnV K "refuse_outside" s_refuse_outside [] [] f_refuse_outside)
    (a_check_ring : PySem.W.nsIn K mainGlobals "check_ring" = some (some (.ref f_check_ring)))
    (l_check_ring : FnV K "check_ring" s_check_ring [] [] f_check_ring)
    (a_block_start : PySem.W.nsIn K mainGlobals "block_start" = some (some (.ref f_block_start)))
    (l_block_start : FnV K "block_start" s_block_start [] [] f_block_start)
    (a_slot_in_thread : PySem.W.nsIn K mainGlobals "slot_in_thread" = some (some (.ref f_slot_in_thread)))
    (l_slot_in_thread : FnV K "slot_in_thread" s_slot_in_thread [] [] f_slot_in_thread)
    (a_slots_in_run : PySem.W.nsIn K mainGlobals "slots_in_run" = some (some (.ref f_slots_in_run)))
    (l_slots_in_run : FnV K "slots_in_run" s_slots_in_run [] [] f_slots_in_run)
    (a_check_run : PySem.W.nsIn K mainGlobals "check_run" = some (some (.ref f_check_run)))
    (l_check_run : FnV K "check_run" s_check_run [] [] f_check_run)
    (a_run_nearest : PySem.W.nsIn K mainGlobals "run_nearest" = some (some (.ref f_run_nearest)))
    (l_run_nearest : FnV K "run_nearest" s_run_nearest [] [] f_run_nearest)
    (a__law_mix : PySem.W.nsIn K mainGlobals "_law_mix" = some (some (.ref f__law_mix)))
    (l__law_mix : FnV K "_law_mix" s__law_mix [] [] f__law_mix)
    (a__law_store : PySem.W.nsIn K mainGlobals "_law_store" = some (some (.ref f__law_store)))
    (l__law_store : FnV K "_law_store" s__law_store [] [] f__law_store)
    (a__law_take : PySem.W.nsIn K mainGlobals "_law_take" = some (some (.ref f__law_take)))
    (l__law_take : FnV K "_law_take" s__law_take [] [] f__law_take)
    (a__law_between : PySem.W.nsIn K mainGlobals "_law_between" = some (some (.ref f__law_between)))
    (l__law_between : FnV K "_law_between" s__law_between [] [] f__law_between)
    (a__law_chance : PySem.W.nsIn K mainGlobals "_law_chance" = some (some (.ref f__law_chance)))
    (l__law_chance : FnV K "_law_chance" s__law_chance [] [] f__law_chance)
    (a__law_edge : PySem.W.nsIn K mainGlobals "_law_edge" = some (some (.ref f__law_edge)))
    (l__law_edge : FnV K "_law_edge" s__law_edge [] [] f__law_edge)
    (a__law_size : PySem.W.nsIn K mainGlobals "_law_size" = some (some (.ref f__law_size)))
    (l__law_size : FnV K "_law_size" s__law_size [] [] f__law_size)
    (a__law_out_of : PySem.W.nsIn K mainGlobals "_law_out_of" = some (some (.ref f__law_out_of)))
    (l__law_out_of : FnV K "_law_out_of" s__law_out_of [] [] f__law_out_of)
    (a__law_out_of_place : PySem.W.nsIn K mainGlobals "_law_out_of_place" = some (some (.ref f__law_out_of_place)))
    (l__law_out_of_place : FnV K "_law_out_of_place" s__law_out_of_place [] [] f__law_out_of_place)
    (a__law_is_whole : PySem.W.nsIn K mainGlobals "_law_is_whole" = some (some (.ref f__law_is_whole)))
    (l__law_is_whole : FnV K "_law_is_whole" s__law_is_whole [] [] f__law_is_whole)
    (a__law_same : PySem.W.nsIn K mainGlobals "_law_same" = some (some (.ref f__law_same)))
    (l__law_same : FnV K "_law_same" s__law_same [] [] f__law_same)
    (a__law_got : PySem.W.nsIn K mainGlobals "_law_got" = some (some (.ref f__law_got)))
    (l__law_got : FnV K "_law_got" s__law_got [] [] f__law_got)
    (a__law_thread : PySem.W.nsIn K mainGlobals "_law_thread" = some (some (.ref f__law_thread)))
    (l__law_thread : FnV K "_law_thread" s__law_thread [] [] f__law_thread)
    (a__law_nearest : PySem.W.nsIn K mainGlobals "_law_nearest" = some (some (.ref f__law_nearest)))
    (l__law_nearest : FnV K "_law_nearest" s__law_nearest [] [] f__law_nearest)
    (a__law_runs : PySem.W.nsIn K mainGlobals "_law_runs" = some (some (.ref f__law_runs)))
    (l__law_runs : FnV K "_law_runs" s__law_runs [] [] f__law_runs)
    (a__law_faults : PySem.W.nsIn K mainGlobals "_law_faults" = some (some (.ref f__law_faults)))
    (l__law_faults : FnV K "_law_faults" s__law_faults [] [] f__law_faults)
    (a_law : PySem.W.nsIn K mainGlobals "law" = some (some (.ref f_law)))
    (l_law : FnV K "law" s_law [] [] f_law)
    (cB : clsB K [C0, C1, C2, C3, C4, C5, C6, C7, C8, C9, C10, C11, C12, C13, C14, C15] = true)
    (n1 : PySem.W.findIn K (.ref C1) "__init__" = some (some (.ref I1)))
    (t1 : PySem.W.typeIn K (.ref I1) = some (.type "function"))
    (m1 : FnF K "__init__" "TooLarge.__init__" (clsInit (top 2)) I1)
    (n2 : PySem.W.findIn K (.ref C2) "__init__" = some (some (.ref I2)))
    (t2 : PySem.W.typeIn K (.ref I2) = some (.type "function"))
    (m2 : FnF K "__init__" "Malformed.__init__" (clsInit (top 3)) I2)
    (n3 : PySem.W.findIn K (.ref C3) "__init__" = some (some (.ref I3)))
    (t3 : PySem.W.typeIn K (.ref I3) = some (.type "function"))
    (m3 : FnF K "__init__" "BadLine.__init__" (clsInit (top 4)) I3)
    (n4 : PySem.W.findIn K (.ref C4) "__init__" = some (some (.ref I4)))
    (t4 : PySem.W.typeIn K (.ref I4) = some (.type "function"))
    (m4 : FnF K "__init__" "BadDeed.__init__" (clsInit (top 5)) I4)
    (n5 : PySem.W.findIn K (.ref C5) "__init__" = some (some (.ref I5)))
    (t5 : PySem.W.typeIn K (.ref I5) = some (.type "function"))
    (m5 : FnF K "__init__" "Shared.__init__" (clsInit (top 6)) I5)
    (n6 : PySem.W.findIn K (.ref C6) "__init__" = some (some (.ref I6)))
    (t6 : PySem.W.typeIn K (.ref I6) = some (.type "function"))
    (m6 : FnF K "__init__" "Overfull.__init__" (clsInit (top 7)) I6)
    (n7 : PySem.W.findIn K (.ref C7) "__init__" = some (some (.ref I7)))
    (t7 : PySem.W.typeIn K (.ref I7) = some (.type "function"))
    (m7 : FnF K "__init__" "NoPlan.__init__" (clsInit (top 8)) I7)
    (n8 : PySem.W.findIn K (.ref C8) "__init__" = some (some (.ref I8)))
    (t8 : PySem.W.typeIn K (.ref I8) = some (.type "function"))
    (m8 : FnF K "__init__" "Crowded.__init__" (clsInit (top 9)) I8)
    (n10 : PySem.W.findIn K (.ref C10) "__init__" = some (some (.ref I10)))
    (t10 : PySem.W.typeIn K (.ref I10) = some (.type "function"))
    (m10 : FnF K "__init__" "Clash.__init__" (clsInit (top 11)) I10)
    (n11 : PySem.W.findIn K (.ref C11) "__init__" = some (some (.ref I11)))
    (t11 : PySem.W.typeIn K (.ref I11) = some (.type "function"))
    (m11 : FnF K "__init__" "NoClass.__init__" (clsInit (top 12)) I11)
    (n12 : PySem.W.findIn K (.ref C12) "__init__" = some (some (.ref I12)))
    (t12 : PySem.W.typeIn K (.ref I12) = some (.type "function"))
    (m12 : FnF K "__init__" "NotChain.__init__" (clsInit (top 13)) I12)
    (n13 : PySem.W.findIn K (.ref C13) "__init__" = some (some (.ref I13)))
    (t13 : PySem.W.typeIn K (.ref I13) = some (.type "function"))
    (m13 : FnF K "__init__" "Overbooked.__init__" (clsInit (top 14)) I13)
    (n14 : PySem.W.findIn K (.ref C14) "__init__" = some (some (.ref I14)))
    (t14 : PySem.W.typeIn K (.ref I14) = some (.type "function"))
    (m14 : FnF K "__init__" "OffClock.__init__" (clsInit (top 15)) I14)
    (n15 : PySem.W.findIn K (.ref C15) "__init__" = some (some (.ref I15)))
    (t15 : PySem.W.typeIn K (.ref I15) = some (.type "function"))
    (m15 : FnF K "__init__" "NoFill.__init__" (clsInit (top 16)) I15)
    (b_ValueError : PySem.W.nsIn K mainGlobals "ValueError" = some none)
    (b_abs : PySem.W.nsIn K mainGlobals "abs" = some none)
    (b_bool : PySem.W.nsIn K mainGlobals "bool" = some none)
    (b_int : PySem.W.nsIn K mainGlobals "int" = some none)
    (b_isinstance : PySem.W.nsIn K mainGlobals "isinstance" = some none)
    (b_len : PySem.W.nsIn K mainGlobals "len" = some none)
    (b_list : PySem.W.nsIn K mainGlobals "list" = some none)
    (b_max : PySem.W.nsIn K mainGlobals "max" = some none)
    (b_min : PySem.W.nsIn K mainGlobals "min" = some none)
    (b_range : PySem.W.nsIn K mainGlobals "range" = some none)
    (b_sorted : PySem.W.nsIn K mainGlobals "sorted" = some none)
    (b_str : PySem.W.nsIn K mainGlobals "str" = some none)
    (b_tuple : PySem.W.nsIn K mainGlobals "tuple" = some none)
    (b_zip : PySem.W.nsIn K mainGlobals "zip" = some none)
    (k_MOST_SLOTS : PySem.W.nsIn K mainGlobals "MOST_SLOTS" = some (some (.int 240 tk_MOST_SLOTS)))
    : ∃ fd : FuncData, (∀ (s : Shared) (u : Value), BindsTo s fd ⟨[u], []⟩ [("script", u)]) ∧ ∀ base : Heap, K.In base → base.Ns mainGlobals mg → FnOk P w K mg base (L2N.CX P w) 42 fa fd ["script"] (spF ⟨K, cadOf [C0, C1, C2, C3, C4, C5, C6, C7, C8, C9, C10, C11, C12, C13, C14, C15], none⟩ [false] (Mn ds 40 25)) := by
  have g0 : ∀ {x : Str} {v : Value}, PySem.W.nsIn K mainGlobals x = some (some v) → mg x = some v := fun e => PySem.W.mg_of X G e
  have e0 := hfa.symm.trans (g0 a_law)
  cases e0
  obtain ⟨oc, od, dV, kV, doc, pm, an, cdv, ct, osl, lk, _, _, hD, hK⟩ := l_law.ex
  refine ⟨_, fun s u => bn_law0 dV hD kV doc pm an cdv ct s u, fun base _ _ => law_fn (k := 25) (i := i_law) (st := s_law) (C := ⟨K, cadOf [C0, C1, C2, C3, C4, C5, C6, C7, C8, C9, C10, C11, C12, C13, C14, C15], none⟩) (Pg := Pg) (ds := ds) (txt_of (cads := [C0, C1, C2, C3, C4, C5, C6, C7, C8, C9, C10, C11, C12, C13, C14, C15]) rfl cB ?bi ?cn ?cc ?mk ?rows) rfl (by decide) (g0 a_law) lk⟩
  case bi =>
    intro b hb
    simp only [Pg, bi, List.mem_cons, List.not_mem_nil, or_false] at hb
    rcases hb with rfl | rfl | rfl | rfl | rfl | rfl | rfl | rfl | rfl | rfl | rfl | rfl | rfl | rfl
    · exact PySem.W.mg_none_of X G b_ValueError
    · exact PySem.W.mg_none_of X G b_abs
    · exact PySem.W.mg_none_of X G b_bool
    · exact PySem.W.mg_none_of X G b_int
    · exact PySem.W.mg_none_of X G b_isinstance
    · exact PySem.W.mg_none_of X G b_len
    · exact PySem.W.mg_none_of X G b_list
    · exact PySem.W.mg_none_of X G b_max
    · exact PySem.W.mg_none_of X G b_min
    · exact PySem.W.mg_none_of X G b_range
    · exact PySem.W.mg_none_of X G b_sorted
    · exact PySem.W.mg_none_of X G b_str
    · exact PySem.W.mg_none_of X G b_tuple
    · exact PySem.W.mg_none_of X G b_zip
  case cn =>
    intro x t ht
    replace ht : cn.lookup x = some t := ht
    have hm := lookup_mem ht
    simp only [cn, List.mem_cons, Prod.mk.injEq, List.not_mem_nil, or_false] at hm
    rcases hm with ⟨rfl, rfl⟩
    · exact ⟨.int 240, _, g0 k_MOST_SLOTS, ⟨_, rfl⟩, fun S H => ⟨rfl, rfl⟩⟩
  case cc =>
    intro x c hc
    have hm := lookup_mem (show cls.lookup x = some c from hc)
    simp only [cls, List.mem_cons, Prod.mk.injEq, List.not_mem_nil, or_false] at hm
    rcases hm with ⟨rfl, rfl⟩ | ⟨rfl, rfl⟩ | ⟨rfl, rfl⟩ | ⟨rfl, rfl⟩ | ⟨rfl, rfl⟩ | ⟨rfl, rfl⟩ | ⟨rfl, rfl⟩ | ⟨rfl, rfl⟩ | ⟨rfl, rfl⟩ | ⟨rfl, rfl⟩ | ⟨rfl, rfl⟩ | ⟨rfl, rfl⟩ | ⟨rfl, rfl⟩ | ⟨rfl, rfl⟩ | ⟨rfl, rfl⟩ | ⟨rfl, rfl⟩
    · exact ⟨g0 aC0, by decide⟩
    · exact ⟨g0 aC1, by decide⟩
    · exact ⟨g0 aC2, by decide⟩
    · exact ⟨g0 aC3, by decide⟩
    · exact ⟨g0 aC4, by decide⟩
    · exact ⟨g0 aC5, by decide⟩
    · exact ⟨g0 aC6, by decide⟩
    · exact ⟨g0 aC7, by decide⟩
    · exact ⟨g0 aC8, by decide⟩
    · exact ⟨g0 aC9, by decide⟩
    · exact ⟨g0 aC10, by decide⟩
    · exact ⟨g0 aC11, by decide⟩
    · exact ⟨g0 aC12, by decide⟩
    · exact ⟨g0 aC13, by decide⟩
    · exact ⟨g0 aC14, by decide⟩
    · exact ⟨g0 aC15, by decide⟩
  case mk =>
    intro c h0 h16 h9
    match c, h0, h16, h9 with
    | 1, _, _, _ => exact ⟨_, _, ci_1 n1 t1 m1⟩
    | 2, _, _, _ => exact ⟨_, _, ci_2 n2 t2 m2⟩
    | 3, _, _, _ => exact ⟨_, _, ci_3 n3 t3 m3⟩
    | 4, _, _, _ => exact ⟨_, _, ci_4 n4 t4 m4⟩
    | 5, _, _, _ => exact ⟨_, _, ci_5 n5 t5 m5⟩
    | 6, _, _, _ => exact ⟨_, _, ci_6 n6 t6 m6⟩
    | 7, _, _, _ => exact ⟨_, _, ci_7 n7 t7 m7⟩
    | 8, _, _, _ => exact ⟨_, _, ci_8 n8 t8 m8⟩
    | 10, _, _, _ => exact ⟨_, _, ci_10 n10 t10 m10⟩
    | 11, _, _, _ => exact ⟨_, _, ci_11 n11 t11 m11⟩
    | 12, _, _, _ => exact ⟨_, _, ci_12 n12 t12 m12⟩
    | 13, _, _, _ => exact ⟨_, _, ci_13 n13 t13 m13⟩
    | 14, _, _, _ => exact ⟨_, _, ci_14 n14 t14 m14⟩
    | 15, _, _, _ => exact ⟨_, _, ci_15 n15 t15 m15⟩
    | 9, _, _, h => exact absurd rfl h
    | 0, h, _, _ => exact absurd h (by decide)
    | n + 16, _, h, _ => exact absurd h (by omega)
  case rows =>
    have r25 : RowC P w K mg base ⟨K, cadOf [C0, C1, C2, C3, C4, C5, C6, C7, C8, C9, C10, C11, C12, C13, C14, C15], none⟩ Pg 25 i_law d_law := (row_def (st := s_law) (N := ["script", "store", "slots", "blocks", "thread", "named", "runs", "run", "k", "due", "whole"]) (fuel := 60) rfl (g0 a_law) l_law (fun _ => ⟨_, bn_law⟩) (fun q hq => by cases hq) n_law rfl rfl rfl (by decide) (fun _ => c_law) (fun z => absurd z (by decide)))
    have r24 : RowC P w K mg base ⟨K, cadOf [C0, C1, C2, C3, C4, C5, C6, C7, C8, C9, C10, C11, C12, C13, C14, C15], none⟩ Pg 24 i__law_faults d__law_faults := (row_def (st := s__law_faults) (N := ["store", "slots", "blocks", "place", "given", "faults", "first", "k", "told", "bent"]) (fuel := 60) rfl (g0 a__law_faults) l__law_faults (fun _ => ⟨_, bn__law_faults⟩) (fun q hq => by cases hq) n__law_faults rfl rfl rfl (by decide) (fun _ => c__law_faults) (fun z => absurd z (by decide)))
    have r23 : RowC P w K mg base ⟨K, cadOf [C0, C1, C2, C3, C4, C5, C6, C7, C8, C9, C10, C11, C12, C13, C14, C15], none⟩ Pg 23 i__law_runs d__law_runs := (row_def (st := s__law_runs) (N := ["store", "slots", "blocks", "runs", "k", "place", "length"]) (fuel := 60) rfl (g0 a__law_runs) l__law_runs (fun _ => ⟨_, bn__law_runs⟩) (fun q hq => by cases hq) n__law_runs rfl rfl rfl (by decide) (fun _ => c__law_runs) (fun z => absurd z (by decide)))
    have r22 : RowC P w K mg base ⟨K, cadOf [C0, C1, C2, C3, C4, C5, C6, C7, C8, C9, C10, C11, C12, C13, C14, C15], none⟩ Pg 22 i__law_nearest d__law_nearest := (row_def (st := s__law_nearest) (N := ["thread", "place", "length", "run", "steps", "k"]) (fuel := 60) rfl (g0 a__law_nearest) l__law_nearest (fun _ => ⟨_, bn__law_nearest⟩) (fun q hq => by cases hq) n__law_nearest rfl rfl rfl (by decide) (fun _ => c__law_nearest) (fun z => absurd z (by decide)))
    have r21 : RowC P w K mg base ⟨K, cadOf [C0, C1, C2, C3, C4, C5, C6, C7, C8, C9, C10, C11, C12, C13, C14, C15], none⟩ Pg 21 i__law_thread d__law_thread := (row_def (st := s__law_thread) (N := ["slots", "blocks", "cells", "slot", "block", "column", "cell"]) (fuel := 60) rfl (g0 a__law_thread) l__law_thread (fun _ => ⟨_, bn__law_thread⟩) (fun q hq => by cases hq) n__law_thread rfl rfl rfl (by decide) (fun _ => c__law_thread) (fun z => absurd z (by decide)))
    have r20 : RowC P w K mg base ⟨K, cadOf [C0, C1, C2, C3, C4, C5, C6, C7, C8, C9, C10, C11, C12, C13, C14, C15], none⟩ Pg 20 i__law_got d__law_got := (row_def (st := s__law_got) (N := ["slots", "blocks", "place", "length", "named", "e", "kinds"]) (fuel := 60) rfl (g0 a__law_got) l__law_got (fun _ => ⟨_, bn__law_got⟩) (fun q hq => by cases hq) n__law_got rfl rfl rfl (by decide) (fun _ => c__law_got) (fun z => absurd z (by decide)))
    have r19 : RowC P w K mg base ⟨K, cadOf [C0, C1, C2, C3, C4, C5, C6, C7, C8, C9, C10, C11, C12, C13, C14, C15], none⟩ Pg 19 i__law_same d__law_same := (row_def (st := s__law_same) (N := ["given", "due", "k"]) (fuel := 60) rfl (g0 a__law_same) l__law_same (fun _ => ⟨_, bn__law_same⟩) (fun q hq => by cases hq) n__law_same rfl rfl rfl (by decide) (fun _ => c__law_same) (fun z => absurd z (by decide)))
    have r18 : RowC P w K mg base ⟨K, cadOf [C0, C1, C2, C3, C4, C5, C6, C7, C8, C9, C10, C11, C12, C13, C14, C15], none⟩ Pg 18 i__law_is_whole d__law_is_whole := (row_def (st := s__law_is_whole) (N := ["given"]) (fuel := 60) rfl (g0 a__law_is_whole) l__law_is_whole (fun _ => ⟨_, bn__law_is_whole⟩) (fun q hq => by cases hq) n__law_is_whole rfl rfl rfl (by decide) (fun _ => c__law_is_whole) (fun z => absurd z (by decide)))
    have r17 : RowC P w K mg base ⟨K, cadOf [C0, C1, C2, C3, C4, C5, C6, C7, C8, C9, C10, C11, C12, C13, C14, C15], none⟩ Pg 17 i__law_out_of_place d__law_out_of_place := (row_def (st := s__law_out_of_place) (N := ["store", "size", "choice", "more"]) (fuel := 60) rfl (g0 a__law_out_of_place) l__law_out_of_place (fun _ => ⟨_, bn__law_out_of_place⟩) (fun q hq => by cases hq) n__law_out_of_place rfl rfl rfl (by decide) (fun _ => c__law_out_of_place) (fun z => absurd z (by decide)))
    have r16 : RowC P w K mg base ⟨K, cadOf [C0, C1, C2, C3, C4, C5, C6, C7, C8, C9, C10, C11, C12, C13, C14, C15], none⟩ Pg 16 i__law_out_of d__law_out_of := (row_def (st := s__law_out_of) (N := ["store", "low", "high", "what", "choice", "more"]) (fuel := 60) rfl (g0 a__law_out_of) l__law_out_of (fun _ => ⟨_, bn__law_out_of⟩) (fun q hq => by cases hq) n__law_out_of rfl rfl rfl (by decide) (fun _ => c__law_out_of) (fun z => absurd z (by decide)))
    have r15 : RowC P w K mg base ⟨K, cadOf [C0, C1, C2, C3, C4, C5, C6, C7, C8, C9, C10, C11, C12, C13, C14, C15], none⟩ Pg 15 i__law_size d__law_size := (row_def (st := s__law_size) (N := ["store", "low", "small", "large"]) (fuel := 60) rfl (g0 a__law_size) l__law_size (fun _ => ⟨_, bn__law_size⟩) (fun q hq => by cases hq) n__law_size rfl rfl rfl (by decide) (fun _ => c__law_size) (fun z => absurd z (by decide)))
    have r14 : RowC P w K mg base ⟨K, cadOf [C0, C1, C2, C3, C4, C5, C6, C7, C8, C9, C10, C11, C12, C13, C14, C15], none⟩ Pg 14 i__law_edge d__law_edge := (row_def (st := s__law_edge) (N := ["store", "low", "high", "choice"]) (fuel := 60) rfl (g0 a__law_edge) l__law_edge (fun _ => ⟨_, bn__law_edge⟩) (fun q hq => by cases hq) n__law_edge rfl rfl rfl (by decide) (fun _ => c__law_edge) (fun z => absurd z (by decide)))
    have r13 : RowC P w K mg base ⟨K, cadOf [C0, C1, C2, C3, C4, C5, C6, C7, C8, C9, C10, C11, C12, C13, C14, C15], none⟩ Pg 13 i__law_chance d__law_chance := (row_def (st := s__law_chance) (N := ["store", "one_of"]) (fuel := 60) rfl (g0 a__law_chance) l__law_chance (fun _ => ⟨_, bn__law_chance⟩) (fun q hq => by cases hq) n__law_chance rfl rfl rfl (by decide) (fun _ => c__law_chance) (fun z => absurd z (by decide)))
    have r12 : RowC P w K mg base ⟨K, cadOf [C0, C1, C2, C3, C4, C5, C6, C7, C8, C9, C10, C11, C12, C13, C14, C15], none⟩ Pg 12 i__law_between d__law_between := (row_def (st := s__law_between) (N := ["store", "low", "high"]) (fuel := 60) rfl (g0 a__law_between) l__law_between (fun _ => ⟨_, bn__law_between⟩) (fun q hq => by cases hq) n__law_between rfl rfl rfl (by decide) (fun _ => c__law_between) (fun z => absurd z (by decide)))
    have r11 : RowC P w K mg base ⟨K, cadOf [C0, C1, C2, C3, C4, C5, C6, C7, C8, C9, C10, C11, C12, C13, C14, C15], none⟩ Pg 11 i__law_take d__law_take := (row_def (st := s__law_take) (N := ["store", "bound", "cell", "value"]) (fuel := 60) rfl (g0 a__law_take) l__law_take (fun _ => ⟨_, bn__law_take⟩) (fun q hq => by cases hq) n__law_take rfl rfl rfl (by decide) (fun _ => c__law_take) (fun z => absurd z (by decide)))
    have r10 : RowC P w K mg base ⟨K, cadOf [C0, C1, C2, C3, C4, C5, C6, C7, C8, C9, C10, C11, C12, C13, C14, C15], none⟩ Pg 10 i__law_store d__law_store := (row_def (st := s__law_store) (N := ["script", "cells", "seed", "cell"]) (fuel := 60) rfl (g0 a__law_store) l__law_store (fun _ => ⟨_, bn__law_store⟩) (fun q hq => by cases hq) n__law_store rfl rfl rfl (by decide) (fun _ => c__law_store) (fun z => absurd z (by decide)))
    have r9 : RowC P w K mg base ⟨K, cadOf [C0, C1, C2, C3, C4, C5, C6, C7, C8, C9, C10, C11, C12, C13, C14, C15], none⟩ Pg 9 i__law_mix d__law_mix := (row_def (st := s__law_mix) (N := ["cell", "turn", "first", "second"]) (fuel := 60) rfl (g0 a__law_mix) l__law_mix (fun _ => ⟨_, bn__law_mix⟩) (fun q hq => by cases hq) n__law_mix rfl rfl rfl (by decide) (fun _ => c__law_mix) (fun z => absurd z (by decide)))
    have r8 : RowC P w K mg base ⟨K, cadOf [C0, C1, C2, C3, C4, C5, C6, C7, C8, C9, C10, C11, C12, C13, C14, C15], none⟩ Pg 8 i_run_nearest d_run_nearest := (row_def (st := s_run_nearest) (N := ["slots", "many", "place", "length", "run", "nearest", "before", "after"]) (fuel := 60) rfl (g0 a_run_nearest) l_run_nearest (fun _ => ⟨_, bn_run_nearest⟩) (fun q hq => by
      simp only [List.mem_cons, List.not_mem_nil, or_false] at hq
      rcases hq with rfl
      · exact bw_run_nearest_0) n_run_nearest rfl rfl rfl (by decide) (fun _ => c_run_nearest) (fun z => absurd z (by decide)))
    have r7 : RowC P w K mg base ⟨K, cadOf [C0, C1, C2, C3, C4, C5, C6, C7, C8, C9, C10, C11, C12, C13, C14, C15], none⟩ Pg 7 i_check_run d_check_run := (row_def (st := s_check_run) (N := ["slots", "many", "place", "length"]) (fuel := 60) rfl (g0 a_check_run) l_check_run (fun _ => ⟨_, bn_check_run⟩) (fun q hq => by cases hq) n_check_run rfl rfl rfl (by decide) (fun _ => c_check_run) (fun z => absurd z (by decide)))
    have r6 : RowC P w K mg base ⟨K, cadOf [C0, C1, C2, C3, C4, C5, C6, C7, C8, C9, C10, C11, C12, C13, C14, C15], none⟩ Pg 6 i_slots_in_run d_slots_in_run := (row_def (st := s_slots_in_run) (N := ["slots", "many", "place", "length", "at"]) (fuel := 60) rfl (g0 a_slots_in_run) l_slots_in_run (fun _ => ⟨_, bn_slots_in_run⟩) (fun q hq => by cases hq) n_slots_in_run rfl rfl rfl (by decide) (fun _ => c_slots_in_run) (fun z => absurd z (by decide)))
    have r5 : RowC P w K mg base ⟨K, cadOf [C0, C1, C2, C3, C4, C5, C6, C7, C8, C9, C10, C11, C12, C13, C14, C15], none⟩ Pg 5 i_slot_in_thread d_slot_in_thread := (row_def (st := s_slot_in_thread) (N := ["slots", "many", "place"]) (fuel := 60) rfl (g0 a_slot_in_thread) l_slot_in_thread (fun _ => ⟨_, bn_slot_in_thread⟩) (fun q hq => by cases hq) n_slot_in_thread rfl rfl rfl (by decide) (fun _ => c_slot_in_thread) (fun z => absurd z (by decide)))
    have r4 : RowC P w K mg base ⟨K, cadOf [C0, C1, C2, C3, C4, C5, C6, C7, C8, C9, C10, C11, C12, C13, C14, C15], none⟩ Pg 4 i_block_start d_block_start := (row_def (st := s_block_start) (N := ["slots", "many", "block"]) (fuel := 60) rfl (g0 a_block_start) l_block_start (fun _ => ⟨_, bn_block_start⟩) (fun q hq => by cases hq) n_block_start rfl rfl rfl (by decide) (fun _ => c_block_start) (fun z => absurd z (by decide)))
    have r3 : RowC P w K mg base ⟨K, cadOf [C0, C1, C2, C3, C4, C5, C6, C7, C8, C9, C10, C11, C12, C13, C14, C15], none⟩ Pg 3 i_check_ring d_check_ring := (row_def (st := s_check_ring) (N := ["slots", "many"]) (fuel := 60) rfl (g0 a_check_ring) l_check_ring (fun _ => ⟨_, bn_check_ring⟩) (fun q hq => by cases hq) n_check_ring rfl rfl rfl (by decide) (fun _ => c_check_ring) (fun z => absurd z (by decide)))
    have r2 : RowC P w K mg base ⟨K, cadOf [C0, C1, C2, C3, C4, C5, C6, C7, C8, C9, C10, C11, C12, C13, C14, C15], none⟩ Pg 2 i_refuse_outside d_refuse_outside := (row_def (st := s_refuse_outside) (N := ["name", "value", "low", "high"]) (fuel := 60) rfl (g0 a_refuse_outside) l_refuse_outside (fun _ => ⟨_, bn_refuse_outside⟩) (fun q hq => by cases hq) n_refuse_outside rfl rfl rfl (by decide) (fun _ => c_refuse_outside) (fun z => absurd z (by decide)))
    have r1 : RowC P w K mg base ⟨K, cadOf [C0, C1, C2, C3, C4, C5, C6, C7, C8, C9, C10, C11, C12, C13, C14, C15], none⟩ Pg 1 i_refuse_above d_refuse_above := (row_def (st := s_refuse_above) (N := ["name", "value", "high"]) (fuel := 60) rfl (g0 a_refuse_above) l_refuse_above (fun _ => ⟨_, bn_refuse_above⟩) (fun q hq => by cases hq) n_refuse_above rfl rfl rfl (by decide) (fun _ => c_refuse_above) (fun z => absurd z (by decide)))
    have r0 : RowC P w K mg base ⟨K, cadOf [C0, C1, C2, C3, C4, C5, C6, C7, C8, C9, C10, C11, C12, C13, C14, C15], none⟩ Pg 0 i_is_whole d_is_whole := (row_def (st := s_is_whole) (N := ["value"]) (fuel := 60) rfl (g0 a_is_whole) l_is_whole (fun _ => ⟨_, bn_is_whole⟩) (fun q hq => by cases hq) n_is_whole rfl rfl rfl (by decide) (fun _ => c_is_whole) (fun z => absurd z (by decide)))
    exact (.cons r0 (.cons r1 (.cons r2 (.cons r3 (.cons r4 (.cons r5 (.cons r6 (.cons r7 (.cons r8 (.cons r9 (.cons r10 (.cons r11 (.cons r12 (.cons r13 (.cons r14 (.cons r15 (.cons r16 (.cons r17 (.cons r18 (.cons r19 (.cons r20 (.cons r21 (.cons r22 (.cons r23 (.cons r24 (.cons r25 .nil))))))))))))))))))))))))))
end Lw
namespace Lw
open PySem Kv
theorem okF_ex {r : Fr} {Q : T → Kv.Env → Prop} (h : okF r (fun _ _ _ => False) Q) : ∃ t ios, r = .ok t ios ∧ Q t ios := by
  cases r with
  | ok t ios => exact ⟨t, ios, rfl, h⟩
  | exc _ _ _ => exact h.elim
  | bad => exact h.elim
theorem mix (j : Nat) (c t : Int) (ht : 0 ≤ t) (h2 : t < 2 ^ 100) : okF (Mn ds (j + 1) 9 [.int c, .int t]) (fun _ _ _ => False) fun r _ => ∃ i : Int, r = .int i ∧ 0 ≤ i ∧ i < 2147483399 := by
  refine mn_of (d := d__law_mix) rfl rfl (run_of rfl ?_)
  simp [d__law_mix, b__law_mix, pinsOf, List.replicate]
  have d1 : okDiv 4099 = true := by decide
  have d2 : okDiv 997 = true := by decide
  have b1 : ∀ x : Int, -(2 ^ 300) ≤ x % 2147483647 ∧ x % 2147483647 ≤ 2 ^ 300 := fun x => by omega
  have b2 : ∀ x : Int, -(2 ^ 300) ≤ x % 2147483399 ∧ x % 2147483399 ≤ 2 ^ 300 := fun x => by omega
  have bt : -(2 ^ 300) ≤ t ∧ t ≤ 2 ^ 300 := by omega
  have k1 : -(2 ^ 300) ≤ (48271 : Int) ∧ (48271 : Int) ≤ 2 ^ 300 := by omega
  have k2 : -(2 ^ 300) ≤ (69621 : Int) ∧ (69621 : Int) ≤ 2 ^ 300 := by omega
  have k3 : -(2 ^ 300) ≤ (40692 : Int) ∧ (40692 : Int) ≤ 2 ^ 300 := by omega
  have k4 : -(2 ^ 300) ≤ (16807 : Int) ∧ (16807 : Int) ≤ 2 ^ 300 := by omega
  refine ⟨bigS (b1 _).1 (b1 _).2 k1.1 k1.2, bigS bt.1 bt.2 k2.1 k2.2, bigS (b1 _).1 (b1 _).2 (b1 _).1 (b1 _).2, bigS bt.1 bt.2 k3.1 k3.2, d1, bigS (b2 _).1 (b2 _).2 (b2 _).1 (b2 _).2, bigS (b1 _).1 (b1 _).2 k4.1 k4.2, d2, ?_, ?_⟩
  · exact Int.emod_nonneg _ (by decide)
  · exact Int.emod_lt_of_pos _ (by decide)
/-- a store: its numbers, n bounds the takes -/
def St (n : Nat) (t : T) : Prop := ∃ (cs : List Int) (a b c d : Int), t = .lst true [.lst true (cs.map .int), .int a, .int b, .int c, .int d] ∧ 0 ≤ a ∧ 0 ≤ b ∧ 0 ≤ c ∧ c ≤ n ∧ 0 ≤ d ∧ d < 2147483399
theorem fzL_ints : ∀ cs : List Int, T.fzL (cs.map .int) = cs.map .int
  | [] => rfl
  | c :: cs => by show T.fz (.int c) :: T.fzL (cs.map .int) = _; rw [fzL_ints cs] <;> rfl
theorem St.deep {n : Nat} {t : T} (h : St n t) : t.deep = true := by
  obtain ⟨cs, a, b, c, d, rfl, _⟩ := h
  simp [T.deep, T.deepL]
theorem mn_at {ds : List Def} {m k : Nat} {d : Def} {ts : List T} {X : QX} {Q : T → Kv.Env → Prop} (hm : 0 < m) (h : ds[k]? = some d) (hp : d.prim = none) (q : ∀ j, m = j + 1 → okF (runDef (Mn ds j) d ts) X Q) : okF (Mn ds m k ts) X Q := by
  obtain ⟨j, rfl⟩ : ∃ j, m = j + 1 := ⟨m - 1, by omega⟩
  exact mn_of h hp (q j rfl)
theorem take0 (j : Nat) (t : T) (bd : Int) (h1 : bd < 2) (D : Dp) (k : D.rt (.int 0) [some t, some (.int bd), none, none]) :
    wss (Mn ds (j+1)) b__law_take [0] [some t, some (.int bd), none, none] D := by
  unfold b__law_take
  simp [h1]
  exact k
theorem take1 (j n : Nat) (cs : List Int) (a b c d bd : Int) (ha : 0 ≤ a) (hb0 : 0 ≤ b) (hc : 0 ≤ c) (hcn : c ≤ n) (hd0 : 0 ≤ d) (hd1 : d < 2147483399) (hn : n < 2 ^ 90) (h1 : ¬ bd < 2) (hb : bd < 2 ^ 200) (D : Dp)
    (k : ∀ (i a' b' c' d' : Int) (s2 s3 : Option T), 0 ≤ i → i < bd → 0 ≤ a' → 0 ≤ b' → 0 ≤ c' → c' ≤ (n + 1 : Nat) → 0 ≤ d' → d' < 2147483399 → D.rt (.int i) [some (.lst true [.lst true (cs.map .int), .int a', .int b', .int c', .int d']), some (.int bd), s2, s3]) :
    wss (Mn ds (j+1)) b__law_take [0] [some (.lst true [.lst true (cs.map .int), .int a, .int b, .int c, .int d]), some (.int bd), none, none] D := by
  have h0 : 0 < bd := by omega
  have hm2 : bigMul 977 (c + 1) = true := bigS (by omega) (by omega) (by omega) (by omega)
  have hd : okDiv bd = true := okS_div h0 (by omega)
  have m0 : ∀ x : Int, 0 ≤ x % bd ∧ x % bd < bd := fun x => ⟨Int.emod_nonneg _ (by omega), Int.emod_lt_of_pos _ h0⟩
  have q0 : ∀ x : Int, 0 ≤ x → 0 ≤ x / bd := fun x hx => Int.ediv_nonneg hx (by omega)
  by_cases h2 : b < bd
  · have h2' : ¬ bd ≤ b := by omega
    by_cases h3 : a < cs.length
    · have hi : a.toNat < cs.length := by omega
      have hx : L2.atI (cs.map T.int) a = some (.int (cs[a.toNat]'hi)) := atI_nat ha (by simp [hi])
      generalize cs[a.toNat]'hi = x at hx
      obtain ⟨t, ios, hr, s, rfl, hs0, hs1⟩ := okF_ex (mix j (x + 977 * (c + 1)) (c + 1) (by omega) (by omega))
      by_cases h4 : 1000000000000000000 ≤ (if x < 0 then -x else x)
      · unfold b__law_take
        simp [h1, h2, h3, h2', fzL_ints, hr, okF, h0, T.deep, hx, h4, hm2]
        refine ⟨by decide, by decide, by decide, ?_⟩
        generalize (if x < 0 then -x else x) = A at h4 ⊢
        split
        · exact k _ _ _ _ _ _ _ (m0 s).1 (m0 s).2 (by omega) (Int.emod_nonneg _ (by decide)) (by omega) (by omega) hd0 hd1
        · split
          · refine ⟨hd, k _ _ _ _ _ _ _ (m0 _).1 (m0 _).2 (by omega) (q0 _ (Int.emod_nonneg _ (by decide))) (by omega) (by omega) hd0 hd1⟩
          · rename_i e1 e2; exact absurd (Int.not_lt.mp e1) e2
      · unfold b__law_take
        simp [h1, h2, h3, h2', fzL_ints, hr, okF, h0, T.deep, hx, h4, hm2]
        exact ⟨by decide, k _ _ _ _ _ _ _ (m0 s).1 (m0 s).2 (by omega) (by omega) (by omega) (by omega) hd0 hd1⟩
    · obtain ⟨t, ios, hr, s, rfl, hs0, hs1⟩ := okF_ex (mix j d (c + 1) (by omega) (by omega))
      unfold b__law_take
      simp [h1, h2, h3, h2', fzL_ints, hr, okF, h0, T.deep]
      exact k _ _ _ _ _ _ _ (m0 s).1 (m0 s).2 (by omega) (by omega) (by omega) (by omega) hs0 hs1
  · have h2' : bd ≤ b := by omega
    unfold b__law_take
    simp [h1, h2, h2', fzL_ints, h0, hd]
    exact k _ _ _ _ _ _ _ (m0 b).1 (m0 b).2 (by omega) (q0 b (by omega)) (by omega) (by omega) hd0 hd1
theorem take (j n : Nat) (t : T) (bd : Int) (h : St n t) (hn : n < 2 ^ 90) (hb : bd < 2 ^ 200) : okF (Mn ds (j + 2) 11 [t, .int bd]) (fun _ _ _ => False) fun r ios => ∃ (i : Int) (t' : T), r = .int i ∧ ios = [some t', none] ∧ St (n + 1) t' ∧ (bd < 2 → i = 0) ∧ (2 ≤ bd → 0 ≤ i ∧ i < bd) := by
  obtain ⟨cs, a, b, c, d, rfl, ha, hb0, hc, hcn, hd0, hd1⟩ := h
  refine mn_of (d := d__law_take) rfl rfl (run_of rfl ?_)
  by_cases h1 : bd < 2
  · exact take0 j _ bd h1 _ ⟨0, _, rfl, rfl, ⟨cs, a, b, c, d, rfl, ha, hb0, hc, by omega, hd0, hd1⟩, fun _ => rfl, fun z => by omega⟩
  · refine take1 j n cs a b c d bd ha hb0 hc hcn hd0 hd1 hn h1 hb _ ?_
    intro i a' b' c' d' s2 s3 h3 h4 h5 h6 h7 h8 h9 h10
    exact ⟨i, _, rfl, rfl, ⟨cs, a', b', c', d', rfl, h5, h6, h7, h8, h9, h10⟩, fun z => by omega, fun _ => ⟨h3, h4⟩⟩
theorem takeM {j n : Nat} {t : T} {bd : Int} (hj : 2 ≤ j) (h : St n t) (hn : n < 2 ^ 80) (hb : bd < 2 ^ 200) : okF (Mn ds j 11 [t, .int bd]) (fun _ _ _ => False) fun r ios => ∃ (i : Int) (t' : T), r = .int i ∧ ios = [some t', none] ∧ St (n + 1) t' ∧ (bd < 2 → i = 0) ∧ (2 ≤ bd → 0 ≤ i ∧ i < bd) := by
  obtain ⟨k, rfl⟩ : ∃ k, j = k + 2 := ⟨j - 2, by omega⟩
  exact take k n t bd h (by omega) hb
theorem St.mono {n m : Nat} {t : T} (h : St n t) (hm : n ≤ m) : St m t := by
  obtain ⟨cs, a, b, c, d, rfl, ha, hb0, hc, hcn, hd0, hd1⟩ := h
  exact ⟨cs, a, b, c, d, rfl, ha, hb0, hc, by omega, hd0, hd1⟩
theorem chance {m n : Nat} {t : T} {bd : Int} (hm : 3 ≤ m) (h : St n t) (hn : n < 2 ^ 80) (hb : bd < 2 ^ 200) : okF (Mn ds m 13 [t, .int bd]) (fun _ _ _ => False) fun r ios => ∃ (b : Bool) (t' : T), r = .bl b ∧ ios = [some t', none] ∧ St (n + 1) t' := by
  refine mn_at (d := d__law_chance) (by omega) rfl rfl fun j hj => run_of rfl ?_
  obtain ⟨_, _, hr, i, t', rfl, rfl, hs, h0, h1⟩ := okF_ex (takeM (j := j) (bd := bd) (by omega) h hn hb)
  simp [d__law_chance, b__law_chance, pinsOf, List.replicate, hr, mask]
  exact ⟨(Decidable.em _).symm, hs⟩
theorem between {m n : Nat} {t : T} {lo hi : Int} (hm : 3 ≤ m) (h : St n t) (hn : n < 2 ^ 80) (hb : hi - lo + 1 < 2 ^ 200) (hl : lo ≤ hi) : okF (Mn ds m 12 [t, .int lo, .int hi]) (fun _ _ _ => False) fun r ios => ∃ (i : Int) (t' : T), r = .int i ∧ ios = [some t', none, none] ∧ St (n + 1) t' ∧ lo ≤ i ∧ i ≤ hi := by
  refine mn_at (d := d__law_between) (by omega) rfl rfl fun j hj => run_of rfl ?_
  obtain ⟨_, _, hr, i, t', rfl, rfl, hs, h0, h1⟩ := okF_ex (takeM (j := j) (bd := hi - lo + 1) (by omega) h hn hb)
  simp [d__law_between, b__law_between, pinsOf, List.replicate, hr, mask]
  refine ⟨hs, ?_⟩
  by_cases h2 : hi - lo + 1 < 2
  · have := h0 h2; omega
  · have := h1 (by omega); omega
theorem edge {m n : Nat} {t : T} {lo hi : Int} (hm : 4 ≤ m) (h : St n t) (hn : n < 2 ^ 79) (hb : hi - lo + 1 < 2 ^ 200) : okF (Mn ds m 14 [t, .int lo, .int hi]) (fun _ _ _ => False) fun r ios => ∃ (i : Int) (t' : T), r = .int i ∧ ios = [some t', none, none] ∧ St (n + 2) t' ∧ lo ≤ i ∧ (lo ≤ hi → i ≤ hi) := by
  refine mn_at (d := d__law_edge) (by omega) rfl rfl fun j hj => run_of rfl ?_
  by_cases hl : hi ≤ lo
  · simp [d__law_edge, b__law_edge, pinsOf, List.replicate, mask, hl]
    exact h.mono (by omega)
  · obtain ⟨_, _, hr, i, t', rfl, rfl, hs, h0, h1⟩ := okF_ex (takeM (j := j) (bd := 9) (by omega) h (by omega) (by omega))
    have hs' := hs.mono (show n + 1 ≤ n + 2 by omega)
    obtain ⟨_, _, hr2, i2, t2, rfl, rfl, hs2, h3, h4⟩ := okF_ex (between (m := j) (lo := lo) (hi := hi) (by omega) hs (by omega) hb (by omega))
    by_cases e0 : i = 0
    · subst e0
      simp [d__law_edge, b__law_edge, pinsOf, List.replicate, mask, hl, hr]
      exact hs'
    · by_cases e1 : i = 1
      · subst e1
        simp [d__law_edge, b__law_edge, pinsOf, List.replicate, mask, hl, hr]
        exact ⟨hs', by omega⟩
      · by_cases e2 : i = 2
        · subst e2
          simp [d__law_edge, b__law_edge, pinsOf, List.replicate, mask, hl, hr]
          exact ⟨hs', by omega, by omega⟩
        · simp [d__law_edge, b__law_edge, pinsOf, List.replicate, mask, hl, hr, hr2, e0, e1, e2]
          exact ⟨hs2, h3, fun _ => h4⟩
/-- a value out of its bounds and what is due -/
def OutOf (lo hi : Int) (what : Str) (r : T) : Prop := (∃ x : Int, hi < x ∧ r = .tup [.int x, .tup [.str "TooLarge", .str what, .int hi]]) ∨ (∃ x : Int, x < lo ∧ r = .tup [.int x, .tup [.str "Malformed", .str what]]) ∨ (∃ b : Bool, r = .tup [.bl b, .tup [.str "Malformed", .str what]])
theorem outOf {m n : Nat} {t : T} {lo hi : Int} {what : Str} (hm : 3 ≤ m) (h : St n t) (hn : n < 2 ^ 79) : okF (Mn ds m 16 [t, .int lo, .int hi, .str what]) (fun _ _ _ => False) fun r ios => ∃ (t' : T), OutOf lo hi what r ∧ ios = [some t', none, none, none] ∧ St (n + 2) t' := by
  refine mn_at (d := d__law_out_of) (by omega) rfl rfl fun j hj => run_of rfl ?_
  obtain ⟨_, _, hr, i, t', rfl, rfl, hs, h0, h1⟩ := okF_ex (takeM (j := j) (bd := 6) (by omega) h (by omega) (by omega))
  obtain ⟨_, _, hr2, i2, t2, rfl, rfl, hs2, h3, h4⟩ := okF_ex (takeM (j := j) (bd := 1000) (by omega) hs (by omega) (by omega))
  obtain ⟨a0, a1⟩ := h1 (by omega)
  obtain ⟨b0, b1⟩ := h4 (by omega)
  have sz : ∀ k, k ≤ 10 → k ≤ sizeLine := fun k hk => Nat.le_trans hk (by decide)
  have bi : (Builtin.Int.intBits 10 : Int) * 30 ≤ 134217728 := by decide
  have : i = 0 ∨ i = 1 ∨ i = 2 ∨ i = 3 ∨ i = 4 ∨ i = 5 := by omega
  rcases this with rfl | rfl | rfl | rfl | rfl | rfl
  · simp [d__law_out_of, b__law_out_of, pinsOf, List.replicate, mask, hr, hr2, sz, bi]
    exact ⟨.inl ⟨_, by omega, rfl⟩, hs2⟩
  · simp [d__law_out_of, b__law_out_of, pinsOf, List.replicate, mask, hr, hr2, sz, bi]
    exact ⟨.inl ⟨_, by omega, rfl⟩, hs2⟩
  · simp [d__law_out_of, b__law_out_of, pinsOf, List.replicate, mask, hr, hr2, sz, bi]
    exact ⟨.inl ⟨_, by omega, rfl⟩, hs2⟩
  · simp [d__law_out_of, b__law_out_of, pinsOf, List.replicate, mask, hr, hr2, sz, bi]
    exact ⟨.inr (.inl ⟨_, by omega, rfl⟩), hs2⟩
  · simp [d__law_out_of, b__law_out_of, pinsOf, List.replicate, mask, hr, hr2, sz, bi]
    exact ⟨.inr (.inl ⟨_, by omega, rfl⟩), hs2⟩
  · have : (1 + i2) % 2 = 0 ∨ (1 + i2) % 2 = 1 := by omega
    rcases this with e | e
    · simp [d__law_out_of, b__law_out_of, pinsOf, List.replicate, mask, hr, hr2, sz, bi, e]
      exact ⟨.inr (.inr ⟨_, rfl⟩), hs2⟩
    · simp [d__law_out_of, b__law_out_of, pinsOf, List.replicate, mask, hr, hr2, sz, bi, e]
      exact ⟨.inr (.inr ⟨_, rfl⟩), hs2⟩
theorem size {m n : Nat} {t : T} {lo sm la : Int} (hm : 5 ≤ m) (h : St n t) (hn : n < 2 ^ 78) (hb : la - lo + 1 < 2 ^ 200) (h1 : lo ≤ sm) (h2 : sm ≤ la) : okF (Mn ds m 15 [t, .int lo, .int sm, .int la]) (fun _ _ _ => False) fun r ios => ∃ (i : Int) (t' : T), r = .int i ∧ ios = [some t', none, none, none] ∧ St (n + 3) t' ∧ lo ≤ i ∧ i ≤ la := by
  refine mn_at (d := d__law_size) (by omega) rfl rfl fun j hj => run_of rfl ?_
  obtain ⟨_, _, hr, b, t', rfl, rfl, hs⟩ := okF_ex (chance (m := j) (bd := 8) (by omega) h (by omega) (by omega))
  cases b with
  | true =>
    obtain ⟨_, _, hr2, i2, t2, rfl, rfl, hs2, h3, h4⟩ := okF_ex (edge (m := j) (lo := lo) (hi := la) (by omega) hs (by omega) hb)
    simp [d__law_size, b__law_size, pinsOf, List.replicate, mask, hr, hr2]
    exact ⟨hs2, h3, h4 (by omega)⟩
  | false =>
    obtain ⟨_, _, hr2, i2, t2, rfl, rfl, hs2, h3, h4⟩ := okF_ex (edge (m := j) (lo := lo) (hi := sm) (by omega) hs (by omega) (by omega))
    simp [d__law_size, b__law_size, pinsOf, List.replicate, mask, hr, hr2]
    exact ⟨hs2, h3, by have := h4 (by omega); omega⟩
theorem storeM {m : Nat} {ns : List Int} (hm : 2 ≤ m) (hl : ns.length ≤ 63) : okF (Mn ds m 10 [.scr ns]) (fun _ _ _ => False) fun r ios => ios = [none] ∧ St 0 r := by
  refine mn_at (d := d__law_store) (by omega) rfl rfl fun j hj => run_of rfl ?_
  simp [d__law_store, b__law_store, pinsOf, List.replicate, mask, fzL_ints]
  obtain ⟨k, rfl⟩ : ∃ k, j = k + 1 := ⟨j - 1, by omega⟩
  refine wLoop_inv (fun _ g => ∃ (s : Int) (x : Option T), g = [some (.scr ns), some (.lst false (ns.map .int)), some (.int s), x] ∧ 0 ≤ s ∧ s < 2147483399 ∧ lfG [x] = true) ⟨20011, none, rfl, by decide, by decide, rfl⟩ ?_ ?_
  · rintro i t g hi ⟨s, x, rfl, h0, h1, _⟩
    obtain ⟨c, rfl, _⟩ := ints_get hi
    have hb : bigMul s 31 = true := bigS (by omega) (by omega) (by omega) (by omega)
    obtain ⟨_, _, hr, s', rfl, hs0, hs1⟩ := okF_ex (mix k (s * 31 + c % 2147483629) ns.length (by omega) (by omega))
    simp [hb, hr, fzL_ints]
    exact ⟨_, _, ⟨rfl, rfl⟩, hs0, hs1, rfl⟩
  · rintro g ⟨s, x, rfl, h0, h1, hlf⟩
    have sz : 5 ≤ sizeLine := by decide
    simp [mask, fzL_ints, sz]
    exact ⟨hlf, ns, 0, 0, 0, s, rfl, by decide, by decide, by decide, by decide, h0, h1⟩
def noSeq : T → Bool
  | .lst _ _ => false
  | .tup _ => false
  | _ => true
theorem isWholeI {m : Nat} (hm : 1 ≤ m) (a : Int) : okF (Mn ds m 18 [.int a]) (fun _ _ _ => False) fun r _ => r = .bl true := by
  refine mn_at (d := d__law_is_whole) (by omega) rfl rfl fun j hj => run_of rfl ?_
  simp [d__law_is_whole, b__law_is_whole, pinsOf, List.replicate, mask]
theorem same_sc {m : Nat} (hm : 2 ≤ m) (n : Nat) (t : T) (ht : okT n t) (hq : noSeq t = true) : okF (Mn ds m 19 [t, t]) (fun _ _ _ => False) fun r _ => r = .bl true := by
  refine mn_at (d := d__law_same) (by omega) rfl rfl fun j hj => run_of rfl ?_
  cases t with
  | int a =>
    obtain ⟨_, _, hr, rfl⟩ := okF_ex (isWholeI (m := j) (by omega) a)
    simp [d__law_same, b__law_same, pinsOf, List.replicate, mask, hr]
  | bl a => simp [d__law_same, b__law_same, pinsOf, List.replicate, mask]
  | str a => simp [d__law_same, b__law_same, pinsOf, List.replicate, mask]
  | non => simp [d__law_same, b__law_same, pinsOf, List.replicate, mask]
  | lst _ _ => cases hq
  | tup _ => cases hq
  | scr _ => cases n <;> exact ht.elim
  | dic _ => cases n <;> exact ht.elim
  | exc _ _ => cases n <;> exact ht.elim
theorem same_ok : ∀ (n : Nat) (t : T), okT n t → ∀ m, n + 2 ≤ m → okF (Mn ds m 19 [t, t]) (fun _ _ _ => False) fun r _ => r = .bl true := by
  intro n
  induction n with
  | zero =>
    intro t ht m hm
    refine same_sc (by omega) 0 t ht ?_
    cases t <;> first | rfl | exact ht.elim
  | succ n ih =>
    intro t ht m hm
    cases t with
    | int a => exact same_sc (by omega) (n + 1) _ ht rfl
    | bl a => exact same_sc (by omega) (n + 1) _ ht rfl
    | str a => exact same_sc (by omega) (n + 1) _ ht rfl
    | non => exact same_sc (by omega) (n + 1) _ ht rfl
    | lst o xs =>
      refine mn_at (d := d__law_same) (by omega) rfl rfl fun j hj => run_of rfl ?_
      obtain ⟨ho, hx, hk⟩ : o = false ∧ LenOk xs ∧ ∀ t ∈ xs, okT n t := ht
      subst ho
      have hf := okT.fzL hk
      have hx := hx.lt
      have b2 : (xs.length : Int) < 4611686018427387904 := by omega
      have b1 : -4611686018427387904 ≤ (xs.length : Int) := by omega
      simp [d__law_same, b__law_same, pinsOf, List.replicate, mask, hf, rngT_1, b1, b2]
      refine wLoop_inv (fun _ g => ∃ x : Option T, g = [some (.lst false xs), some (.lst false xs), x]) ⟨none, rfl⟩ ?_ ?_
      · rintro i t g hi ⟨x, rfl⟩
        obtain ⟨rfl, hj2⟩ := rng_get' hi
        have hm2 := hk _ (List.getElem_mem hj2)
        obtain ⟨_, _, hr, rfl⟩ := okF_ex (ih _ hm2 j (by omega))
        simp [hf, atI_i hj2, hm2.fz, hr]
      · rintro g ⟨x, rfl⟩
        simp [mask]
    | tup xs =>
      refine mn_at (d := d__law_same) (by omega) rfl rfl fun j hj => run_of rfl ?_
      obtain ⟨hx, hk⟩ : LenOk xs ∧ ∀ t ∈ xs, okT n t := ht
      have hf := okT.fzL hk
      have hx := hx.lt
      have b2 : (xs.length : Int) < 4611686018427387904 := by omega
      have b1 : -4611686018427387904 ≤ (xs.length : Int) := by omega
      simp [d__law_same, b__law_same, pinsOf, List.replicate, mask, hf, rngT_1, b1, b2]
      refine wLoop_inv (fun _ g => ∃ x : Option T, g = [some (.tup xs), some (.tup xs), x]) ⟨none, rfl⟩ ?_ ?_
      · rintro i t g hi ⟨x, rfl⟩
        obtain ⟨rfl, hj2⟩ := rng_get' hi
        have hm2 := hk _ (List.getElem_mem hj2)
        obtain ⟨_, _, hr, rfl⟩ := okF_ex (ih _ hm2 j (by omega))
        simp [hf, atI_i hj2, hm2.fz, hr]
      · rintro g ⟨x, rfl⟩
        simp [mask]
    | scr _ => exact ht.elim
    | dic _ => exact ht.elim
    | exc _ _ => exact ht.elim
theorem okF_eq {r : Fr} {x : T} {y : Kv.Env} (h : okF r (fun _ _ _ => False) fun t ios => t = x ∧ ios = y) : r = .ok x y := by
  obtain ⟨_, _, e, rfl, rfl⟩ := okF_ex h
  exact e
theorem okF_eqx {r : Fr} {c : Nat} {fs : List T} (h : okF r (fun c' fs' _ => c' = c ∧ fs' = fs) fun _ _ => False) : ∃ ios, r = .exc c fs ios := by
  cases r with
  | ok _ _ => exact h.elim
  | exc c' fs' ios =>
    obtain ⟨rfl, rfl⟩ : c' = c ∧ fs' = fs := h
    exact ⟨ios, rfl⟩
  | bad => exact h.elim
theorem okF_R {m k : Nat} {d : Def} {ts : List T} {o : Out} (hm : 0 < m) (h : ds[k]? = some d) (hp : d.prim = none) (q : ∀ j, m = j + 1 → okF (runDef (Mn ds j) d ts) (fun c fs ios => o = .err c fs ∧ ios = List.replicate d.io.length none) fun t ios => o = .ok t ∧ ios = List.replicate d.io.length none) : Mn ds m k ts = R d.io.length o := eqR (mn_at hm h hp q)
theorem strs_fz (zs : List Str) : T.fzL (zs.map T.str) = zs.map T.str := fzL_str zs
def cellBad (z : Str) : Bool := !(decide (z = Str.ofString ".") || markB z)
def rowBad (zs : List Str) : Bool := zs.isEmpty || zs.any cellBad
def outE (e : Option (Nat × List T)) (t : T) : Out := match e with
  | some e => .err e.1 e.2
  | none => .ok t
/-- from the sth on, round the end -/
def rot (zs : List Str) (s : Nat) : List Str := zs.drop s ++ zs.take s
def errT (e : Nat × List T) : T := .tup (.str (if e.1 = 1 then "TooLarge" else "Malformed") :: e.2)
/-- an error that the law knows -/
def ErrOk (c : Nat) (fs : List T) : Prop := (c = 1 ∧ ∃ (w : Str) (i : Int), fs = [.str w, .int i]) ∨ (c = 2 ∧ ∃ w : Str, fs = [.str w])
theorem isw_i {m : Nat} {a : Int} (hm : 1 ≤ m) : Mn ds m 0 [.int a] = .ok (.bl true) [none] := by
  refine okF_eq (mn_at (d := d_is_whole) (by omega) rfl rfl fun j hj => run_of rfl ?_)
  simp [d_is_whole, b_is_whole, pinsOf, List.replicate, mask]
theorem isw_b {m : Nat} {a : Bool} (hm : 1 ≤ m) : Mn ds m 0 [.bl a] = .ok (.bl false) [none] := by
  refine okF_eq (mn_at (d := d_is_whole) (by omega) rfl rfl fun j hj => run_of rfl ?_)
  simp [d_is_whole, b_is_whole, pinsOf, List.replicate, mask]
/-- not a whole number from lo to hi -/
def Off (lo hi : Int) (v : T) : Prop := (∃ b, v = .bl b) ∨ ∃ i, v = .int i ∧ (i < lo ∨ hi < i)
/-- a truth value or a whole number below lo -/
def Low (lo : Int) (v : T) : Prop := (∃ b, v = .bl b) ∨ ∃ i, v = .int i ∧ i < lo
theorem above_n {m : Nat} {nm : Str} {v : T} {hi : Int} (hm : 2 ≤ m) (hv : (∃ b, v = .bl b) ∨ ∃ i, v = .int i ∧ i ≤ hi) : Mn ds m 1 [.str nm, v, .int hi] = .ok .non [none, none, none] := by
  refine okF_eq (mn_at (d := d_refuse_above) (by omega) rfl rfl fun j hj => run_of rfl ?_)
  rcases hv with ⟨b, rfl⟩ | ⟨i, rfl, h0⟩
  · simp [d_refuse_above, b_refuse_above, pinsOf, List.replicate, mask, isw_b (m := j) (by omega)]
  · have h : ¬ hi < i := by omega
    simp [d_refuse_above, b_refuse_above, pinsOf, List.replicate, mask, isw_i (m := j) (by omega), h]
theorem above_x {m : Nat} {nm : Str} {i hi : Int} (hm : 2 ≤ m) (h : hi < i) : ∃ ios, Mn ds m 1 [.str nm, .int i, .int hi] = .exc 1 [.str nm, .int hi] ios := by
  refine okF_eqx (mn_at (d := d_refuse_above) (by omega) rfl rfl fun j hj => run_of rfl ?_)
  simp [d_refuse_above, b_refuse_above, pinsOf, List.replicate, mask, isw_i (m := j) (by omega), h, flds]
theorem outside_n {m : Nat} {nm : Str} {i lo hi : Int} (hm : 2 ≤ m) (h1 : lo ≤ i) (h2 : i ≤ hi) : Mn ds m 2 [.str nm, .int i, .int lo, .int hi] = .ok .non [none, none, none, none] := by
  refine okF_eq (mn_at (d := d_refuse_outside) (by omega) rfl rfl fun j hj => run_of rfl ?_)
  have h3 : ¬ i < lo := by omega
  have h4 : ¬ hi < i := by omega
  simp [d_refuse_outside, b_refuse_outside, pinsOf, List.replicate, mask, isw_i (m := j) (by omega), h3, h4]
theorem outside_x {m : Nat} {nm : Str} {v : T} {lo hi : Int} (hm : 2 ≤ m) (h : Off lo hi v) : ∃ ios, Mn ds m 2 [.str nm, v, .int lo, .int hi] = .exc 2 [.str nm] ios := by
  refine okF_eqx (mn_at (d := d_refuse_outside) (by omega) rfl rfl fun j hj => run_of rfl ?_)
  rcases h with ⟨b, rfl⟩ | ⟨i, rfl, h⟩
  · simp [d_refuse_outside, b_refuse_outside, pinsOf, List.replicate, mask, isw_b (m := j) (by omega), flds]
  · by_cases h3 : i < lo
    · simp [d_refuse_outside, b_refuse_outside, pinsOf, List.replicate, mask, isw_i (m := j) (by omega), h3, flds]
    · have h4 : hi < i := by omega
      simp [d_refuse_outside, b_refuse_outside, pinsOf, List.replicate, mask, isw_i (m := j) (by omega), h3, h4, flds]
/-- a number or a truth value -/
def isIB (v : T) : Prop := (∃ b, v = .bl b) ∨ ∃ i, v = .int i
theorem isIB.fz {v : T} (h : isIB v) : v.fz = v := by rcases h with ⟨_, rfl⟩ | ⟨_, rfl⟩ <;> rfl
theorem isIB.ok {v : T} (h : isIB v) : okT 0 v := by rcases h with ⟨_, rfl⟩ | ⟨_, rfl⟩ <;> trivial
theorem isIB.deep {v : T} (h : isIB v) : v.deep = true := by rcases h with ⟨_, rfl⟩ | ⟨_, rfl⟩ <;> rfl
theorem outPlace {m n : Nat} {t : T} {s : Int} (hm : 3 ≤ m) (h : St n t) (hn : n < 2 ^ 79) (h1 : 1 ≤ s) (h2 : s ≤ 2000) : okF (Mn ds m 17 [t, .int s]) (fun _ _ _ => False) fun r ios => ∃ (t' : T), Off 0 (s - 1) r ∧ isIB r ∧ ios = [some t', none] ∧ St (n + 2) t' := by
  refine mn_at (d := d__law_out_of_place) (by omega) rfl rfl fun j hj => run_of rfl ?_
  obtain ⟨_, _, hr, i, t', rfl, rfl, hs, h0, h1'⟩ := okF_ex (takeM (j := j) (bd := 7) (by omega) h (by omega) (by omega))
  obtain ⟨_, _, hr2, i2, t2, rfl, rfl, hs2, h3, h4⟩ := okF_ex (takeM (j := j) (bd := 1000) (by omega) hs (by omega) (by omega))
  obtain ⟨a0, a1⟩ := h1' (by omega)
  obtain ⟨b0, b1⟩ := h4 (by omega)
  have sz : ∀ k, k ≤ 10 → k ≤ sizeLine := fun k hk => Nat.le_trans hk (by decide)
  have bi : (Builtin.Int.intBits 10 : Int) * 30 ≤ 134217728 := by decide
  have ex : ∃ v, L2.atI [T.int s, .int (s + (1 + i2)), .int 1000000000000000000000000000000, .int (-1), .int (0 - s), .int (0 - (1 + i2)), .bl (decide ((1 + i2) % 2 = 0))] i = some v ∧ Off 0 (s - 1) v ∧ isIB v := by
    have : i = 0 ∨ i = 1 ∨ i = 2 ∨ i = 3 ∨ i = 4 ∨ i = 5 ∨ i = 6 := by omega
    rcases this with rfl | rfl | rfl | rfl | rfl | rfl | rfl
    · exact ⟨_, rfl, .inr ⟨_, rfl, by omega⟩, .inr ⟨_, rfl⟩⟩
    · exact ⟨_, rfl, .inr ⟨_, rfl, by omega⟩, .inr ⟨_, rfl⟩⟩
    · exact ⟨_, rfl, .inr ⟨_, rfl, by omega⟩, .inr ⟨_, rfl⟩⟩
    · exact ⟨_, rfl, .inr ⟨_, rfl, by omega⟩, .inr ⟨_, rfl⟩⟩
    · exact ⟨_, rfl, .inr ⟨_, rfl, by omega⟩, .inr ⟨_, rfl⟩⟩
    · exact ⟨_, rfl, .inr ⟨_, rfl, by omega⟩, .inr ⟨_, rfl⟩⟩
    · exact ⟨_, rfl, .inl ⟨_, rfl⟩, .inl ⟨_, rfl⟩⟩
  obtain ⟨v, ev, o1, o2⟩ := ex
  have z : (0 : Int) - s = -s := by omega
  have z2 : (0 : Int) - (1 + i2) = -(1 + i2) := by omega
  simp [d__law_out_of_place, b__law_out_of_place, pinsOf, List.replicate, mask, hr, hr2, sz, bi]
  first
    | (rw [ev]; simp [mask]; exact ⟨o1, o2, hs2⟩)
    | (simp at ev; rw [ev]; simp [mask]; exact ⟨o1, o2, hs2⟩)
theorem ring_ok {m : Nat} {s k : Int} (hm : 3 ≤ m) (h1 : 1 ≤ s) (h2 : s ≤ 240) (h3 : 1 ≤ k) (h4 : k ≤ s) : Mn ds m 3 [.int s, .int k] = .ok .non [none, none] := by
  refine okF_eq (mn_at (d := d_check_ring) (by omega) rfl rfl fun j hj => run_of rfl ?_)
  simp [d_check_ring, b_check_ring, pinsOf, List.replicate, mask, above_n (m := j) (v := .int s) (by omega) (.inr ⟨s, rfl, h2⟩), outside_n (m := j) (by omega) h1 h2, outside_n (m := j) (by omega) h3 h4]
/-- arguments of a ring that are refused -/
def RingX (a b : T) (c : Nat) (fs : List T) : Prop := (∃ i, a = .int i ∧ 240 < i ∧ c = 1 ∧ fs = [.str "slots", .int 240]) ∨ (Low 1 a ∧ c = 2 ∧ fs = [.str "slots"]) ∨ (∃ i, a = .int i ∧ 1 ≤ i ∧ i ≤ 240 ∧ Off 1 i b ∧ c = 2 ∧ fs = [.str "many"])
theorem ring_x {m : Nat} {a b : T} {c : Nat} {fs : List T} (hm : 3 ≤ m) (hb : b.fz = b) (h : RingX a b c fs) : ∃ ios, Mn ds m 3 [a, b] = .exc c fs ios := by
  refine okF_eqx (mn_at (d := d_check_ring) (by omega) rfl rfl fun j hj => run_of rfl ?_)
  rcases h with ⟨i, rfl, hi, rfl, rfl⟩ | ⟨hl, rfl, rfl⟩ | ⟨i, rfl, h1, h2, h3, rfl, rfl⟩
  · obtain ⟨_, e⟩ := above_x (m := j) (nm := "slots") (by omega) hi
    simp [d_check_ring, b_check_ring, pinsOf, List.replicate, mask, e]
  · obtain ⟨_, e⟩ := outside_x (m := j) (nm := "slots") (lo := 1) (hi := 240) (v := a) (by omega) (hl.imp id fun ⟨i, e, h⟩ => ⟨i, e, .inl h⟩)
    have e0 := above_n (m := j) (nm := "slots") (v := a) (hi := 240) (by omega) (hl.imp id fun ⟨i, e, h⟩ => ⟨i, e, by omega⟩)
    have az : a.fz = a := by rcases hl with ⟨_, rfl⟩ | ⟨_, rfl, _⟩ <;> rfl
    simp [d_check_ring, b_check_ring, pinsOf, List.replicate, mask, e, e0, az]
  · obtain ⟨_, e⟩ := outside_x (m := j) (nm := "many") (lo := 1) (hi := i) (v := b) (by omega) h3
    simp [d_check_ring, b_check_ring, pinsOf, List.replicate, mask, above_n (m := j) (v := .int i) (by omega) (.inr ⟨i, rfl, h2⟩), outside_n (m := j) (by omega) h1 h2, e, hb]
theorem RingX.facts {a b : T} {c : Nat} {fs : List T} (h : RingX a b c fs) : a.fz = a ∧ T.deepL fs = true ∧ ErrOk c fs := by
  rcases h with ⟨i, rfl, hi, rfl, rfl⟩ | ⟨hl, rfl, rfl⟩ | ⟨i, rfl, h1, h2, h3, rfl, rfl⟩
  · exact ⟨rfl, rfl, .inl ⟨rfl, _, _, rfl⟩⟩
  · exact ⟨by rcases hl with ⟨_, rfl⟩ | ⟨_, rfl, _⟩ <;> rfl, rfl, .inr ⟨rfl, _, rfl⟩⟩
  · exact ⟨rfl, rfl, .inr ⟨rfl, _, rfl⟩⟩
/-- where a block starts; the slot at a place of the thread -/
def blk (s k i : Int) : Int := i * (s / k) + if s % k < i then s % k else i
def th (s k p : Int) : Int := blk s k (p % k) + p / k
theorem start_ok {m : Nat} {s k i : Int} (hm : 1 ≤ m) (h1 : 1 ≤ s) (h2 : s ≤ 240) (h3 : 1 ≤ k) (h4 : k ≤ s) (h5 : 0 ≤ i) (h6 : i < k) : Mn ds m 4 [.int s, .int k, .int i] = .ok (.int (blk s k i)) [none, none, none] := by
  refine okF_eq (mn_at (d := d_block_start) (by omega) rfl rfl fun j hj => run_of rfl ?_)
  have hd : okDiv k = true := okS_div (by omega) (by omega)
  have q0 : 0 ≤ s / k := Int.ediv_nonneg (by omega) (by omega)
  have q1 : s / k ≤ s := Int.ediv_le_self k (by omega)
  have hb : bigMul i (s / k) = true := bigS (by omega) (by omega) (by omega) (by omega)
  have hk : 0 < k := by omega
  simp [d_block_start, b_block_start, pinsOf, List.replicate, mask, hd, hb, hk, blk]
theorem slotIn {m : Nat} {s k p : Int} (hm : 2 ≤ m) (h1 : 1 ≤ s) (h2 : s ≤ 240) (h3 : 1 ≤ k) (h4 : k ≤ s) (h5 : 0 ≤ p) : Mn ds m 5 [.int s, .int k, .int p] = .ok (.int (th s k p)) [none, none, none] := by
  refine okF_eq (mn_at (d := d_slot_in_thread) (by omega) rfl rfl fun j hj => run_of rfl ?_)
  have hd : okDiv k = true := okS_div (by omega) (by omega)
  have hk : 0 < k := by omega
  have e := start_ok (m := j) (by omega) h1 h2 h3 h4 (Int.emod_nonneg p (b := k) (by omega)) (Int.emod_lt_of_pos p hk)
  simp [d_slot_in_thread, b_slot_in_thread, pinsOf, List.replicate, mask, hd, hk, e, th]
/-- a run of the thread -/
def run_ (s k p l : Int) : List T := (List.range l.toNat).map fun (i : Nat) => .int (th s k (p + i))
theorem runOk {m : Nat} {s k p l : Int} (hm : 3 ≤ m) (h1 : 1 ≤ s) (h2 : s ≤ 240) (h3 : 1 ≤ k) (h4 : k ≤ s) (h5 : 0 ≤ p) (h6 : p ≤ 240) (h7 : 0 ≤ l) (h8 : l ≤ 240) : Mn ds m 6 [.int s, .int k, .int p, .int l] = .ok (.lst true (run_ s k p l)) [none, none, none, none] := by
  refine okF_eq (mn_at (d := d_slots_in_run) (by omega) rfl rfl fun j hj => run_of rfl ?_)
  have b1 : -4611686018427387904 ≤ p := by omega
  have b2 : p < 4611686018427387904 := by omega
  have b3 : -4611686018427387904 ≤ p + l := by omega
  have b4 : p + l < 4611686018427387904 := by omega
  have b5 : p + l - p = l := by omega
  simp [d_slots_in_run, b_slots_in_run, pinsOf, List.replicate, mask, rngT_2, b1, b2, b3, b4, b5]
  refine wComp_map (run_ s k p l) (by simp) (by simp [run_]) (by simp [run_, sizeLine]; omega) ?_ (by simp [backE, mask])
  intro i t y hi hy
  have hi' : ((List.range l.toNat).map fun (k : Nat) => T.int (p + (k : Int)))[i]? = some t := hi
  have hil : i < l.toNat := by
    have := (List.getElem?_eq_some_iff.mp hi').1
    simpa using this
  rw [List.getElem?_map, List.getElem?_range hil] at hi'
  obtain rfl : T.int (p + (i : Int)) = t := Option.some.inj hi'
  have hy' : y = .int (th s k (p + i)) := by
    unfold run_ at hy
    rw [List.getElem?_map, List.getElem?_range hil] at hy
    exact (Option.some.inj hy).symm
  subst hy'
  simp [slotIn (m := j) (p := p + i) (by omega) h1 h2 h3 h4 (by omega)]
theorem run_deep (s k p l : Int) : T.deepL (run_ s k p l) = true := by
  unfold run_
  generalize List.range l.toNat = r
  induction r with
  | nil => rfl
  | cons x r ih => simp [ih]
theorem run_fz (s k p l : Int) : T.fzL (run_ s k p l) = run_ s k p l := by
  unfold run_
  generalize List.range l.toNat = r
  induction r with
  | nil => rfl
  | cons x r ih => simp [ih]
theorem chkRun {m : Nat} {s k p l : Int} (hm : 4 ≤ m) (h1 : 1 ≤ s) (h2 : s ≤ 240) (h3 : 1 ≤ k) (h4 : k ≤ s) (h5 : 0 ≤ p) (h6 : p < s) (h7 : 0 ≤ l) (h8 : l ≤ s - p) : Mn ds m 7 [.int s, .int k, .int p, .int l] = .ok .non [none, none, none, none] := by
  refine okF_eq (mn_at (d := d_check_run) (by omega) rfl rfl fun j hj => run_of rfl ?_)
  have e := outside_n (m := j) (nm := "place") (i := p) (lo := 0) (hi := s - 1) (by omega) h5 (by omega)
  have e2 := outside_n (m := j) (nm := "length") (i := l) (lo := 0) (hi := s - p) (by omega) h7 h8
  simp [d_check_run, b_check_run, pinsOf, List.replicate, mask, ring_ok (m := j) (by omega) h1 h2 h3 h4, e, e2]
/-- the block of a slot, its place -/
def plc (s k x : Int) : Int := (x - blk s k (if x < s % k * (s / k + 1) then x / (s / k + 1) else (x - s % k) / (s / k))) * k + if x < s % k * (s / k + 1) then x / (s / k + 1) else (x - s % k) / (s / k)
theorem plc_block {s k x : Int} (h1 : 1 ≤ s) (h3 : 1 ≤ k) (h4 : k ≤ s) (h5 : 0 ≤ x) (h6 : x < s) : (x < s % k * (s / k + 1) → 0 ≤ x / (s / k + 1) ∧ x / (s / k + 1) < k) ∧ (¬ x < s % k * (s / k + 1) → 0 ≤ (x - s % k) / (s / k) ∧ (x - s % k) / (s / k) < k) ∧ 1 ≤ s / k := by
  have e := Int.ediv_mul_add_emod s k
  have r0 := Int.emod_nonneg s (b := k) (by omega)
  have r1 := Int.emod_lt_of_pos s (b := k) (by omega)
  have q0 : 1 ≤ s / k := by
    have := Int.ediv_le_ediv (show 0 < k by omega) h4
    rw [Int.ediv_self (by omega)] at this
    exact this
  generalize s / k = q at *
  generalize s % k = r at *
  refine ⟨fun h => ⟨Int.ediv_nonneg h5 (by omega), ?_⟩, fun h => ⟨?_, ?_⟩, q0⟩
  · have : x / (q + 1) < r := Int.ediv_lt_of_lt_mul (by omega) h
    omega
  · have h7 : r ≤ r * (q + 1) := by
      have := Int.mul_le_mul_of_nonneg_left (show 1 ≤ q + 1 by omega) r0
      omega
    exact Int.ediv_nonneg (by omega) (by omega)
  · refine Int.ediv_lt_of_lt_mul (by omega) ?_
    rw [Int.mul_comm] at e
    rw [Int.mul_comm]
    rw [Int.mul_comm q k]
    omega
/-- a ring's numbers -/
structure Rg (s k : Int) : Prop where
  h1 : 1 ≤ s
  h2 : s ≤ 240
  h3 : 1 ≤ k
  h4 : k ≤ s
/-- the third argument is refused -/
def ThX (nm : Str) (a b p : T) (c : Nat) (fs : List T) : Prop := RingX a b c fs ∨ ∃ s k : Int, a = .int s ∧ b = .int k ∧ Rg s k ∧ Off 0 (s - 1) p ∧ c = 2 ∧ fs = [.str nm]
def RunX (a b p l : T) (c : Nat) (fs : List T) : Prop := ThX "place" a b p c fs ∨ ∃ s k i : Int, a = .int s ∧ b = .int k ∧ p = .int i ∧ Rg s k ∧ 0 ≤ i ∧ i < s ∧ Off 0 (s - i) l ∧ c = 2 ∧ fs = [.str "length"]
theorem ThX.err {nm : Str} {a b p : T} {c : Nat} {fs : List T} (h : ThX nm a b p c fs) : ErrOk c fs ∧ T.deepL fs = true := by
  rcases h with h | ⟨s, k, rfl, rfl, _, _, rfl, rfl⟩
  · exact ⟨h.facts.2.2, h.facts.2.1⟩
  · exact ⟨.inr ⟨rfl, _, rfl⟩, rfl⟩
theorem RunX.err {a b p l : T} {c : Nat} {fs : List T} (h : RunX a b p l c fs) : ErrOk c fs ∧ T.deepL fs = true := by
  rcases h with h | ⟨s, k, i, rfl, rfl, rfl, _, _, _, _, rfl, rfl⟩
  · exact h.err
  · exact ⟨.inr ⟨rfl, _, rfl⟩, rfl⟩
theorem chkX {m : Nat} {a b p l : T} {c : Nat} {fs : List T} (hm : 4 ≤ m) (ha : isIB a) (hb : isIB b) (hp : isIB p) (hl : isIB l) (h : RunX a b p l c fs) : ∃ ios, Mn ds m 7 [a, b, p, l] = .exc c fs ios := by
  refine okF_eqx (mn_at (d := d_check_run) (by omega) rfl rfl fun j hj => run_of rfl ?_)
  have hd := h.err.2
  rcases h with (h | ⟨s, k, rfl, rfl, r, ho, rfl, rfl⟩) | ⟨s, k, i, rfl, rfl, rfl, r, i0, i1, ho, rfl, rfl⟩
  · obtain ⟨_, e⟩ := ring_x (m := j) (by omega) hb.fz h
    simp [d_check_run, b_check_run, pinsOf, List.replicate, e, ha.fz, hb.fz, hp.fz, hl.fz, hd]
  · obtain ⟨_, e⟩ := outside_x (m := j) (nm := "place") (by omega) ho
    simp [d_check_run, b_check_run, pinsOf, List.replicate, ring_ok (m := j) (by omega) r.h1 r.h2 r.h3 r.h4, e, hp.fz, hl.fz, hd]
  · have e0 := outside_n (m := j) (nm := "place") (i := i) (lo := 0) (hi := s - 1) (by omega) i0 (by omega)
    obtain ⟨_, e⟩ := outside_x (m := j) (nm := "length") (by omega) ho
    simp [d_check_run, b_check_run, pinsOf, List.replicate, ring_ok (m := j) (by omega) r.h1 r.h2 r.h3 r.h4, e0, e, hl.fz, hd]
theorem thN {s k c b : Nat} (hb : b < k) : th s k ((c * k + b : Nat) : Int) = blk s k b + c := by
  unfold th
  have h1 : (c * k + b) % k = b := by rw [Nat.mul_comm, Nat.mul_add_mod, Nat.mod_eq_of_lt hb]
  have h2 : (c * k + b) / k = c := by rw [Nat.mul_comm, Nat.mul_add_div (by omega), Nat.div_eq_of_lt hb, Nat.add_zero]
  have e1 : ((c * k + b : Nat) : Int) % (k : Int) = ((c * k + b) % k : Nat) := rfl
  have e2 : ((c * k + b : Nat) : Int) / (k : Int) = ((c * k + b) / k : Nat) := rfl
  rw [e1, e2, h1, h2]
theorem blkN {s k b : Nat} : blk s k b = ((b * (s / k) + min b (s % k) : Nat) : Int) := by
  unfold blk
  have e2 : (s : Int) / k = (s / k : Nat) := rfl
  have e3 : (s : Int) % k = (s % k : Nat) := rfl
  rw [e2, e3]
  rw [Int.natCast_add, Int.natCast_mul]
  congr 1
  split <;> omega
/-- how long a block is -/
def ln (s k b : Nat) : Nat := s / k + if b < s % k then 1 else 0
theorem pl_facts {s k p : Nat} (h3 : 1 ≤ k) (h4 : k ≤ s) (hp : p < s) : 0 ≤ th s k p ∧ th s k p < s ∧ plc s k (th s k p) = p := by
  have hk : 0 < k := by omega
  have ep := Nat.div_add_mod p k
  have es := Nat.div_add_mod s k
  have bk := Nat.mod_lt p hk
  have rk := Nat.mod_lt s hk
  generalize hc : p / k = c at *
  generalize hb : p % k = b at *
  have pe : p = c * k + b := by rw [Nat.mul_comm]; omega
  have te : th s k p = ((b * (s / k) + min b (s % k) + c : Nat) : Int) := by
    rw [pe, thN bk, blkN]; omega
  have q1 : 1 ≤ s / k := Nat.div_pos h4 hk
  unfold plc
  have e2 : (s : Int) / k = (s / k : Nat) := rfl
  have e3 : (s : Int) % k = (s % k : Nat) := rfl
  rw [te, e2, e3]
  generalize hq : s / k = q at *
  generalize hr : s % k = r at *
  have cb : c * k + b < q * k + r := by rw [← pe, Nat.mul_comm]; omega
  have bv : ∀ y : Nat, y = b → blk s k (y : Int) = ((b * q + min b r : Nat) : Int) := fun y hy => by rw [hy, blkN, hq, hr]
  by_cases hbr : b < r
  · have cq : c ≤ q := by
      apply Classical.byContradiction
      intro hn
      have : (q + 1) * k ≤ c * k := Nat.mul_le_mul_right k (by omega)
      rw [Nat.add_mul] at this
      omega
    have mb : min b r = b := Nat.min_eq_left (by omega)
    rw [mb]
    have l1 : (b + 1) * (q + 1) ≤ r * (q + 1) := Nat.mul_le_mul_right _ (by omega)
    have x1 : (b + 1) * (q + 1) = b * q + b + q + 1 := by rw [Nat.add_mul, Nat.mul_add]; omega
    have x2 : r * (q + 1) = r * q + r := by rw [Nat.mul_add]; omega
    have l2 : r * q ≤ k * q := Nat.mul_le_mul_right _ (by omega)
    have lt : b * q + b + c < r * (q + 1) := by omega
    have dv : (b * q + b + c) / (q + 1) = b := by
      have : b * q + b + c = (q + 1) * b + c := by rw [Nat.add_mul, Nat.mul_comm q b]; omega
      rw [this, Nat.mul_add_div (by omega), Nat.div_eq_of_lt (by omega), Nat.add_zero]
    have ltI : ((b * q + b + c : Nat) : Int) < (r : Int) * ((q : Int) + 1) := by
      have := Int.ofNat_lt.mpr lt
      simpa using this
    have dvI : ((b * q + b + c : Nat) : Int) / ((q : Int) + 1) = (b : Int) := by
      have : ((b * q + b + c : Nat) : Int) / ((q + 1 : Nat) : Int) = (((b * q + b + c) / (q + 1) : Nat) : Int) := rfl
      rw [dv] at this
      simpa using this
    rw [if_pos ltI, dvI, bv b rfl, mb]
    refine ⟨by omega, by omega, ?_⟩
    have : ((b * q + b + c : Nat) : Int) - ((b * q + b : Nat) : Int) = c := by omega
    rw [this, pe]
    simp
  · have cq : c < q := by
      apply Classical.byContradiction
      intro hn
      have : q * k ≤ c * k := Nat.mul_le_mul_right k (by omega)
      omega
    have mb : min b r = r := Nat.min_eq_right (by omega)
    rw [mb]
    have x2 : r * (q + 1) = r * q + r := by rw [Nat.mul_add]; omega
    have l1 : r * q ≤ b * q := Nat.mul_le_mul_right _ (by omega)
    have l2 : (b + 1) * q ≤ k * q := Nat.mul_le_mul_right _ (by omega)
    have x3 : (b + 1) * q = b * q + q := by rw [Nat.add_mul]; omega
    have ge : ¬ (b * q + r + c < r * (q + 1)) := by omega
    have geI : ¬ (((b * q + r + c : Nat) : Int) < (r : Int) * ((q : Int) + 1)) := by
      intro h
      apply ge
      have h' : ((b * q + r + c : Nat) : Int) < ((r * (q + 1) : Nat) : Int) := by simpa using h
      exact Int.ofNat_lt.mp h'
    have dv : (b * q + c) / q = b := by
      rw [Nat.mul_comm, Nat.mul_add_div (by omega), Nat.div_eq_of_lt cq, Nat.add_zero]
    have dvI : (((b * q + r + c : Nat) : Int) - (r : Int)) / (q : Int) = (b : Int) := by
      have h1 : ((b * q + r + c : Nat) : Int) - (r : Int) = ((b * q + c : Nat) : Int) := by omega
      have h2 : ((b * q + c : Nat) : Int) / (q : Int) = (((b * q + c) / q : Nat) : Int) := rfl
      rw [h1, h2, dv]
    rw [if_neg geI, dvI, bv b rfl, mb]
    refine ⟨by omega, by omega, ?_⟩
    have : ((b * q + r + c : Nat) : Int) - ((b * q + r : Nat) : Int) = c := by omega
    rw [this, pe]
    simp
theorem blk_le {s k i : Nat} (hk : 1 ≤ k) (hi : i ≤ k) : ∃ n : Nat, blk s k i = n ∧ n ≤ s := by
  refine ⟨_, blkN, ?_⟩
  have es := Nat.div_add_mod s k
  have : i * (s / k) ≤ k * (s / k) := Nat.mul_le_mul_right _ hi
  omega
theorem blk_ln {s k i : Nat} : blk s k i + (ln s k i : Nat) = blk s k ((i + 1 : Nat) : Int) := by
  rw [blkN, blkN]
  unfold ln
  rw [Nat.add_mul]
  by_cases h : i < s % k
  · rw [if_pos h]; omega
  · rw [if_neg h]; omega
theorem minI_eq {ns : List Int} {m : Int} (h : m ∈ ns) (hh : ∀ y ∈ ns, m ≤ y) : minI ns = some m := by
  cases e : minI ns with
  | none => cases ns with
    | nil => cases h
    | cons _ _ => cases e
  | some k =>
    obtain ⟨_, h1, h2⟩ := minI_of e
    rw [Int.le_antisymm (h2 m h) (hh k h1)]
/-- the gaps of a list -/
def gaps : List Int → List Int
  | a :: b :: r => (b - a) :: gaps (b :: r)
  | _ => []
theorem gaps_len : ∀ r : List Int, (gaps r).length = r.length - 1
  | [] => rfl
  | [_] => rfl
  | a :: b :: r => by
    show (gaps (b :: r)).length + 1 = _
    rw [gaps_len (b :: r)]
    simp
theorem gaps_get : ∀ (r : List Int) (k : Nat) (h : k + 1 < r.length), (gaps r)[k]? = some (r[k + 1] - r[k])
  | a :: b :: r, 0, h => rfl
  | a :: b :: r, k + 1, h => by
    show (gaps (b :: r))[k]? = _
    rw [gaps_get (b :: r) k (by simpa using h)]
    simp
  | [a], k, h => by simp at h
  | [], k, h => by simp at h
theorem foldl_min : ∀ (l : List Int) (x : Int), (l.foldl min x ∈ x :: l) ∧ ∀ y ∈ x :: l, l.foldl min x ≤ y
  | [], x => ⟨List.mem_singleton.mpr rfl, fun y hy => by rw [List.mem_singleton.mp hy]; exact Int.le_refl _⟩
  | a :: l, x => by
    obtain ⟨h1, h2⟩ := foldl_min l (min x a)
    rw [List.foldl_cons]
    refine ⟨?_, fun y hy => ?_⟩
    · rcases List.mem_cons.mp h1 with e | e
      · rw [e]
        rcases Int.le_total x a with q | q
        · rw [Int.min_eq_left q]; exact List.mem_cons_self
        · rw [Int.min_eq_right q]; exact List.mem_cons_of_mem _ List.mem_cons_self
      · exact List.mem_cons_of_mem _ (List.mem_cons_of_mem _ e)
    · have h0 := h2 _ List.mem_cons_self
      rcases List.mem_cons.mp hy with rfl | hy
      · omega
      · rcases List.mem_cons.mp hy with rfl | hy
        · omega
        · exact h2 y (List.mem_cons_of_mem _ hy)
/-- the least of the gaps and the seam -/
def near (n : Int) (r : List Int) : Int := (gaps r).foldl min (r.headD 0 + n - r.getLastD 0)
theorem near_min (n : Int) (r : List Int) : minI (gaps r ++ [r.headD 0 + n - r.getLastD 0]) = some (near n r) := by
  obtain ⟨h1, h2⟩ := foldl_min (gaps r) (r.headD 0 + n - r.getLastD 0)
  refine minI_eq ?_ fun y hy => h2 y ?_
  · rcases List.mem_cons.mp h1 with e | e
    · unfold near; rw [e]; simp
    · exact List.mem_append_left _ e
  · rcases List.mem_append.mp hy with e | e
    · exact List.mem_cons_of_mem _ e
    · rw [List.mem_singleton.mp e]; exact List.mem_cons_self
/-- the slots of a run -/
def runN (s k p l : Int) : List Int := (List.range l.toNat).map fun (i : Nat) => th s k (p + i)
theorem run_N (s k p l : Int) : run_ s k p l = (runN s k p l).map T.int := by
  unfold run_ runN
  rw [List.map_map]
  rfl
theorem zip_gaps : ∀ r : List Int, (r.take (r.length - 1)).zip (r.drop 1) = (List.range (r.length - 1)).map fun k => (r.getD k 0, r.getD (k + 1) 0) := by
  intro r
  refine List.ext_getElem (by simp) fun i h1 h2 => ?_
  simp at h2
  rw [List.getElem_zip, List.getElem_map, List.getElem_range, List.getElem_take, List.getElem_drop]
  rw [List.getD_eq_getElem?_getD, List.getD_eq_getElem?_getD, List.getElem?_eq_getElem (by omega), List.getElem?_eq_getElem (by omega)]
  simp [Nat.add_comm]
theorem gaps_rng (r : List Int) : gaps r = (List.range (r.length - 1)).map fun k => r.getD (k + 1) 0 - r.getD k 0 := by
  refine List.ext_getElem? fun k => ?_
  by_cases h : k + 1 < r.length
  · rw [gaps_get r k h, List.getElem?_map, List.getElem?_range (by omega)]
    simp [List.getD_eq_getElem?_getD, List.getElem?_eq_getElem h, List.getElem?_eq_getElem (show k < r.length by omega)]
  · rw [List.getElem?_eq_none (by rw [gaps_len]; omega), List.getElem?_eq_none (by simp; omega)]
theorem zipT_int (xs ys : List Int) : zipT (xs.map .int) (ys.map .int) = (xs.zip ys).map fun p => T.tup [.int p.1, .int p.2] := by
  unfold zipT
  rw [List.zip, List.map_zipWith, List.zipWith_map]
theorem nearest {m : Nat} {s k p l : Int} (hm : 5 ≤ m) (r : Rg s k) (h5 : 0 ≤ p) (h6 : p < s) (h7 : 0 ≤ l) (h8 : l ≤ s - p) : Mn ds m 8 [.int s, .int k, .int p, .int l] = R 4 (.ok (.int (if l = 0 then 0 else near s (sortI (runN s k p l))))) := by
  refine okF_R (d := d_run_nearest) (by omega) rfl rfl fun j hj => run_of rfl ?_
  have h2 := r.h2
  have e1 := chkRun (m := j) (by omega) r.h1 r.h2 r.h3 r.h4 h5 h6 h7 h8
  have e2 := runOk (m := j) (by omega) r.h1 r.h2 r.h3 r.h4 h5 (by omega) h7 (by omega)
  by_cases h0 : l = 0
  · subst h0
    simp [d_run_nearest, b_run_nearest, pinsOf, List.replicate, mask, e1]
  have dl := run_deep s k p l
  rw [run_N] at e2 dl
  have hl : (sortI (runN s k p l)).length = l.toNat := by rw [sortI_len]; simp [runN]
  generalize hns : runN s k p l = ns at *
  generalize hr : sortI ns = q at *
  have q0 : 0 < q.length := by omega
  have x0 := atI_map (us := q) (f := T.int) (i := 0) (by omega) (by omega)
  have x1 := atI_neg (us := q) (f := T.int) (i := -1) (by omega) (by omega)
  simp [d_run_nearest, b_run_nearest, pinsOf, List.replicate, e1, e2, h0, dl, sortL_int (intsT_map ns), hr, x0, x1]
  have ez : (-1 + (q.length : Int)).toNat = q.length - 1 := by omega
  have ew : ((-1 : Int) + (q.length : Int)).toNat = q.length - 1 := by omega
  rw [cut_negM (by omega), cut_loM (by omega), fzL_int, fzL_int, zipT_int]
  simp only [ez, show (1 : Int).toNat = 1 from rfl]
  obtain ⟨zs, hz⟩ : ∃ zs, zs = (q.take (q.length - 1)).zip (q.drop 1) := ⟨_, rfl⟩
  rw [← hz]
  have hg : gaps q = zs.map fun p => p.2 - p.1 := by rw [gaps_rng, hz, zip_gaps, List.map_map]; rfl
  have hx : q[0] + s - q[q.length - 1] = q.headD 0 + s - q.getLastD 0 := by
    cases q with
    | nil => cases q0
    | cons a q => rw [List.getLastD_eq_getLast?, List.getLast?_eq_getElem?]; simp
  refine wLoop_oi (fun pre _ g => ∃ a b : Option T, g = [some (.int s), some (.int k), some (.int p), some (.int l), some (.lst true (q.map T.int)), some (.int (pre.foldl (fun m p => min m (p.2 - p.1)) (q.headD 0 + s - q.getLastD 0))), a, b]) ⟨none, none, by rw [← hx]; rfl⟩ ?_ ?_
  · rintro pre u post g hu ⟨a, b, rfl⟩
    simp
    refine iv3 ⟨some (.int u.1), some (.int u.2), ?_⟩
    simp [ifmin]
  · rintro g ⟨a, b, rfl⟩
    simp [mask]
    unfold near
    rw [hg, List.foldl_map]
    simp
/-- the law's cells: column, block, slot -/
def celT (x : Nat × Nat × Int) : T := .tup [.int x.1, .int x.2.1, .int x.2.2]
def blkC (s k b n : Nat) : List (Nat × Nat × Int) := (List.range n).map fun c => (c, b, blk s k b + c)
def celN (s k b : Nat) : List (Nat × Nat × Int) := (List.range b).flatMap fun b => blkC s k b (ln s k b)
def celP (s k : Nat) : List (Nat × Nat × Int) := (List.range s).map fun p => (p / k, p % k, th s k p)
theorem celN_succ (s k b : Nat) : celN s k (b + 1) = celN s k b ++ blkC s k b (ln s k b) := by
  unfold celN
  rw [List.range_succ, List.flatMap_append]
  simp
theorem blkC_succ (s k b n : Nat) : blkC s k b (n + 1) = blkC s k b n ++ [(n, b, blk s k b + n)] := by
  unfold blkC
  rw [List.range_succ, List.map_append]
  rfl
theorem celN_len (s k b : Nat) : ((celN s k b).length : Int) = blk s k b := by
  induction b with
  | zero => rw [blkN]; simp [celN]
  | succ b ih =>
    rw [celN_succ, List.length_append, ← blk_ln, ← ih]
    simp [blkC]
theorem mem_celN {s k : Nat} {x : Nat × Nat × Int} : x ∈ celN s k k ↔ x.2.1 < k ∧ x.1 < ln s k x.2.1 ∧ x.2.2 = blk s k x.2.1 + x.1 := by
  obtain ⟨c, b, v⟩ := x
  unfold celN blkC
  simp only [List.mem_flatMap, List.mem_range, List.mem_map, Prod.mk.injEq]
  constructor
  · rintro ⟨b', h1, c', h2, rfl, rfl, rfl⟩
    exact ⟨h1, h2, rfl⟩
  · rintro ⟨h1, h2, rfl⟩
    exact ⟨b, h1, c, h2, rfl, rfl, rfl⟩
theorem mem_celP {s k : Nat} (hk : 0 < k) {x : Nat × Nat × Int} : x ∈ celP s k ↔ x.2.1 < k ∧ x.1 < ln s k x.2.1 ∧ x.2.2 = blk s k x.2.1 + x.1 := by
  obtain ⟨c, b, v⟩ := x
  unfold celP
  simp only [List.mem_map, List.mem_range, Prod.mk.injEq]
  have es := Nat.div_add_mod s k
  have rk := Nat.mod_lt s hk
  constructor
  · rintro ⟨p, hp, rfl, rfl, rfl⟩
    have bk := Nat.mod_lt p hk
    have ep := Nat.div_add_mod p k
    refine ⟨bk, ?_, ?_⟩
    · unfold ln
      have hle : p / k ≤ s / k := Nat.div_le_div_right (by omega)
      split
      · omega
      · rename_i hn
        rcases Nat.lt_or_ge (p / k) (s / k) with h | h
        · omega
        · have : p / k = s / k := by omega
          rw [this] at ep
          omega
    · have := thN (s := s) (k := k) (c := p / k) (b := p % k) bk
      rw [show p / k * k + p % k = p by rw [Nat.mul_comm]; exact ep] at this
      exact this
  · rintro ⟨hb, hc, rfl⟩
    have h1 : (c * k + b) % k = b := by rw [Nat.mul_comm, Nat.mul_add_mod, Nat.mod_eq_of_lt hb]
    have h2 : (c * k + b) / k = c := by rw [Nat.mul_comm, Nat.mul_add_div (by omega), Nat.div_eq_of_lt hb, Nat.add_zero]
    refine ⟨c * k + b, ?_, h2, h1, ?_⟩
    · unfold ln at hc
      have q1 : c * k ≤ s / k * k := Nat.mul_le_mul_right k (by split at hc <;> omega)
      have q2 : k * (s / k) = s / k * k := Nat.mul_comm _ _
      split at hc
      · omega
      · have : (c + 1) * k ≤ s / k * k := Nat.mul_le_mul_right k (by omega)
        rw [Nat.add_mul] at this
        omega
    · have := thN (s := s) (k := k) (c := c) (b := b) hb
      exact this
theorem nodup_celN (s k : Nat) : (celN s k k).Nodup := by
  unfold celN List.Nodup
  rw [List.pairwise_flatMap]
  refine ⟨fun b _ => ?_, ?_⟩
  · unfold blkC
    rw [List.pairwise_map]
    exact List.pairwise_lt_range.imp fun h e => by simp only [Prod.mk.injEq] at e; omega
  · refine List.pairwise_lt_range.imp fun {a b} h x hx y hy e => ?_
    unfold blkC at hx hy
    obtain ⟨_, _, rfl⟩ := List.mem_map.mp hx
    obtain ⟨_, _, rfl⟩ := List.mem_map.mp hy
    simp only [Prod.mk.injEq] at e
    omega
theorem div_lt_cases {k p q : Nat} (hk : 0 < k) (h : p < q) : p / k < q / k ∨ (p / k = q / k ∧ p % k < q % k) := by
  have a := Nat.div_add_mod p k
  have b := Nat.div_add_mod q k
  rcases Nat.lt_or_ge (p / k) (q / k) with c | c
  · exact .inl c
  · have e : p / k = q / k := Nat.le_antisymm (Nat.div_le_div_right (by omega)) c
    rw [e] at a
    exact .inr ⟨e, by omega⟩
theorem nodup_celP {s k : Nat} (hk : 0 < k) : (celP s k).Nodup := by
  unfold celP List.Nodup
  rw [List.pairwise_map]
  refine List.pairwise_lt_range.imp fun {p q} h e => ?_
  simp only [Prod.mk.injEq] at e
  rcases div_lt_cases hk h with c | c <;> omega
theorem perm_cel {s k : Nat} (hk : 0 < k) : (celP s k).Perm (celN s k k) := by
  rw [List.perm_ext_iff_of_nodup (nodup_celP hk) (nodup_celN s k)]
  intro x
  rw [mem_celP hk, mem_celN]
def celI (x : Nat × Nat × Int) : List Int := [(x.1 : Int), (x.2.1 : Int), x.2.2]
theorem celT_D (x : Nat × Nat × Int) : (celT x).toD = .tuple ((celI x).map .int) := rfl
theorem leD_cel (x y : Nat × Nat × Int) : leD (celT x) (celT y) = !decide (celI y < celI x) := by
  have e : leD (celT x) (celT y) = !PySem.W.dataLt (celT y).toD (celT x).toD := rfl
  rw [e, celT_D, celT_D, PySem.W.dataLt_tuple]
  have := PySem.W.dataLt_ints (celI y) (celI x)
  unfold PySem.W.rowLt at this
  rw [this]
theorem sort_cel {s k : Nat} (hk : 0 < k) : ((celN s k k).map celT).mergeSort leD = (celP s k).map celT := by
  have p1 : (((celN s k k).map celT).mergeSort leD).Perm ((celN s k k).map celT) := List.mergeSort_perm _ _
  have p2 : ((celP s k).map celT).Perm ((celN s k k).map celT) := (perm_cel hk).map _
  have mem : ∀ t, t ∈ ((celN s k k).map celT).mergeSort leD → ∃ x, t = celT x := fun t ht => by
    obtain ⟨x, _, e⟩ := List.mem_map.mp (p1.mem_iff.mp ht)
    exact ⟨x, e.symm⟩
  refine List.Perm.eq_of_pairwise (le := fun a b => leD a b = true) (fun a b ha hb h1 h2 => ?_) (leD_sorted _) ?_ (p1.trans p2.symm)
  · obtain ⟨x, rfl⟩ := mem a ha
    obtain ⟨y, _, rfl⟩ := List.mem_map.mp hb
    rw [leD_cel] at h1 h2
    simp only [Bool.not_eq_true', decide_eq_false_iff_not] at h1 h2
    have e : celI x = celI y := List.le_antisymm (List.not_lt.mp h1) (List.not_lt.mp h2)
    obtain ⟨a, b, c⟩ := x
    obtain ⟨a', b', c'⟩ := y
    simp only [celI, List.cons.injEq, and_true] at e
    obtain ⟨e1, e2, e3⟩ := e
    have e1 : a = a' := by omega
    have e2 : b = b' := by omega
    rw [e1, e2, e3]
  · rw [List.pairwise_map]
    unfold celP
    rw [List.pairwise_map]
    refine List.pairwise_lt_range.imp fun {p q} h => ?_
    rw [leD_cel]
    simp only [Bool.not_eq_true', decide_eq_false_iff_not]
    refine List.not_lt.mpr (List.le_of_lt ?_)
    unfold celI
    rw [List.cons_lt_cons_iff, List.cons_lt_cons_iff]
    rcases div_lt_cases hk h with c | c
    · exact .inl (by simp only; omega)
    · exact .inr ⟨by simp only; omega, .inl (by simp only; omega)⟩
theorem sortOk_cel (xs : List (Nat × Nat × Int)) : sortOk (xs.map celT) = true := by
  unfold sortOk
  rw [List.all_eq_true]
  intro t ht
  obtain ⟨x, _, rfl⟩ := List.mem_map.mp ht
  have d : (celT x).toD.depth ≤ 60 := by
    simp [celT, T.toD, T.toDL, PyData.depth, PyData.depthAll]
  simp only [Bool.and_eq_true, decide_eq_true_eq, List.all_eq_true]
  refine ⟨⟨⟨rfl, rfl⟩, d⟩, fun u hu => ?_⟩
  obtain ⟨y, _, rfl⟩ := List.mem_map.mp hu
  rfl
theorem sortL_cel {o : Bool} {xs : List (Nat × Nat × Int)} (h : xs ≠ []) : opS .sortL [.lst o (xs.map celT)] = some (.lst true ((xs.map celT).mergeSort leD)) := by
  cases xs with
  | nil => exact absurd rfl h
  | cons x xs => exact sortL_data rfl rfl (sortOk_cel _)
theorem celT_fz (x : Nat × Nat × Int) : (celT x).fz = celT x := rfl
theorem lawThread {m : Nat} {s k : Nat} (hm : 1 ≤ m) (h1 : 1 ≤ s) (h2 : s ≤ 240) (h3 : 1 ≤ k) (h4 : k ≤ s) : Mn ds m 21 [.int s, .int k] = R 2 (.ok (.lst true ((runN s k 0 s).map .int))) := by
  refine okF_R (d := d__law_thread) (by omega) rfl rfl fun j hj => run_of rfl ?_
  have dv : okDiv (k : Int) = true := okS_div (by omega) (by omega)
  have eq : (s : Int) / k = (s / k : Nat) := rfl
  have er : (s : Int) % k = (s % k : Nat) := rfl
  have lks : s / k ≤ s := Nat.div_le_self s k
  have b00 : blk s k 0 = 0 := by simpa using blkN (s := s) (k := k) (b := 0)
  simp [d__law_thread, b__law_thread, pinsOf, List.replicate, rngT_1, show (k : Int) < 4611686018427387904 by omega, show -4611686018427387904 ≤ (k : Int) by omega]
  refine wLoop_ri (fun b g => ∃ (x y : Option T), g = [some (.int s), some (.int k), some (.lst true ((celN s k b).map celT)), some (.int (blk s k b)), x, y, none]) ⟨none, none, by simp [celN, b00]⟩ ?_ ?_
  · rintro b g hb ⟨x, y, rfl⟩
    have hb : b < k := by simpa using hb
    have hb2 : (0 : Int) < k := by omega
    have el : (s : Int) / k + (if (b : Int) < (s : Int) % k then 1 else 0) = (ln s k b : Nat) := by
      rw [eq, er]
      unfold ln
      by_cases h : b < s % k
      · rw [if_pos h, if_pos (by omega)]; omega
      · rw [if_neg h, if_neg (by omega)]; omega
    have ll : ln s k b ≤ s / k + 1 := by unfold ln; split <;> omega
    obtain ⟨_, he, hle⟩ := blk_le (s := s) (k := k) (i := b) h3 (by omega)
    have c0 := celN_len s k b
    have ls : (celN s k b).length ≤ 240 := by omega
    have b1 : ((ln s k b : Nat) : Int) < 4611686018427387904 := by omega
    have b2 : -4611686018427387904 ≤ ((ln s k b : Nat) : Int) := by omega
    have b3 : 0 < k := by omega
    simp [dv, b3, el, rngT_1, b1, b2]
    refine wLoop_ri (fun c g => ∃ (y : Option T), g = [some (.int s), some (.int k), some (.lst true ((celN s k b ++ blkC s k b c).map celT)), some (.int (blk s k b + c)), some (.int b), y, none]) ⟨y, by simp [blkC]⟩ ?_ ?_
    · rintro c g hc ⟨y, rfl⟩
      have hc : c < ln s k b := by simpa using hc
      simp [szl, blkC]
      refine ⟨by omega, iv ⟨some (.int c), ?_⟩⟩
      simp [blkC, List.range_succ, celT]
      omega
    · rintro g ⟨y, rfl⟩
      simp
      refine iv ⟨some (.int b), y, ?_⟩
      rw [celN_succ, ← blk_ln]
      simp
  · rintro g ⟨x, y, rfl⟩
    have hne : celN s k k ≠ [] := fun e => by
      have c0 := celN_len s k k
      rw [e, blkN] at c0
      have := Nat.div_pos h4 h3
      have : 1 * 1 ≤ k * (s / k) := Nat.mul_le_mul h3 this
      simp only [List.length_nil] at c0
      omega
    have sl := fun o => sortL_cel (o := o) hne
    have fzm : T.fzL ((celN s k k).map celT) = (celN s k k).map celT := fzL_id fun t ht => by
      obtain ⟨x, _, rfl⟩ := List.mem_map.mp ht
      rfl
    have fzp : T.fzL ((celP s k).map celT) = (celP s k).map celT := fzL_id fun t ht => by
      obtain ⟨x, _, rfl⟩ := List.mem_map.mp ht
      rfl
    have so := sort_cel (s := s) (k := k) h3
    simp [-fzL_mp, fzm, fzp, sl, so]
    refine wComp_all (us := celP s k) (enc := celT) (fun x => .int x.2.2) (by simp) (by simp [szl, celP]; omega) (fun u hu => by simp [celT]) ?_
    have e : (celP s k).map (fun x => T.int x.2.2) = (runN s k 0 s).map T.int := by
      unfold celP runN
      rw [List.map_map, List.map_map]
      refine List.map_congr_left fun i _ => ?_
      simp
    rw [e]
    simp [backE, mask]
theorem runN_len (s k p l : Int) : (runN s k p l).length = l.toNat := by unfold runN; simp
theorem runN_cut {s k : Int} {p l : Int} (h5 : 0 ≤ p) (h7 : 0 ≤ l) (h8 : p + l ≤ s) : ((runN s k 0 s).drop p.toNat).take ((p + l).toNat - p.toNat) = runN s k p l := by
  unfold runN
  refine List.ext_getElem (by simp; omega) fun i h1 h2 => ?_
  simp at h2
  rw [List.getElem_take, List.getElem_drop, List.getElem_map, List.getElem_map, List.getElem_range, List.getElem_range]
  congr 1
  omega
theorem lawNear {m : Nat} {s k p l : Int} (hm : 1 ≤ m) (h0 : 1 ≤ s) (h2 : s ≤ 240) (h5 : 0 ≤ p) (h6 : p < s) (h7 : 0 ≤ l) (h8 : p + l ≤ s) : Mn ds m 22 [.lst false ((runN s k 0 s).map .int), .int p, .int l] = R 3 (.ok (.int (if l = 0 then 0 else near s (sortI (runN s k p l))))) := by
  refine okF_R (d := d__law_nearest) (by omega) rfl rfl fun j hj => run_of rfl ?_
  by_cases hl : l = 0
  · subst hl
    simp [d__law_nearest, b__law_nearest, pinsOf, List.replicate, mask]
  have hc := runN_cut (k := k) h5 h7 h8
  have lq : (sortI (runN s k p l)).length = l.toNat := by rw [sortI_len, runN_len]
  have ls := runN_len s k 0 s
  have p0 : 0 ≤ p + l := by omega
  have so := sortL_int (o := true) (intsT_map (runN s k p l))
  have nm := near_min s (sortI (runN s k p l))
  generalize hq : sortI (runN s k p l) = q at *
  have q0 : 0 < q.length := by omega
  have x0 := atI_map (us := q) (f := T.int) (i := 0) (by omega) (by omega)
  have x1 := atI_map (us := q) (f := T.int) (i := l - 1) (by omega) (by omega)
  simp [-List.map_take, -List.map_drop, d__law_nearest, b__law_nearest, pinsOf, List.replicate, hl, cut_midM, h5, p0, hc, so, rngT_1, show l - 1 < 4611686018427387904 by omega, show -4611686018427387904 ≤ l - 1 by omega]
  refine wComp_all (fun k : Nat => .int (q.getD (k + 1) 0 - q.getD k 0)) (by simp) (by simp [szl]; omega) (fun u hu => ?_) ?_
  · have hu : u < (l - 1).toNat := by simpa using hu
    have y0 := atI_map (us := q) (f := T.int) (i := (u : Int)) (by omega) (by omega)
    have y1 := atI_map (us := q) (f := T.int) (i := (u : Int) + 1) (by omega) (by omega)
    simp [y0, y1, List.getElem?_eq_getElem (show u < q.length by omega), List.getElem?_eq_getElem (show u + 1 < q.length by omega)]
  · have eg : (List.range (l.toNat - 1)).map (fun k : Nat => T.int (q.getD (k + 1) 0 - q.getD k 0)) = (gaps q).map T.int := by
      rw [gaps_rng, List.map_map, show l.toNat - 1 = q.length - 1 by omega]
      rfl
    rw [eg]
    have hx : q[0] + s - q[(l - 1).toNat]'(by omega) = q.headD 0 + s - q.getLastD 0 := by
      have e1 : q.headD 0 = q[0] := by
        cases q with
        | nil => cases q0
        | cons a q => rfl
      have e2 : q.getLastD 0 = q[(l - 1).toNat]'(by omega) := by
        rw [List.getLastD_eq_getLast?, List.getLast?_eq_getElem?, List.getElem?_eq_getElem (by omega)]
        simp only [Option.getD_some]
        congr 1
        omega
      rw [e1, e2]
    have gl := gaps_len q
    have em : (gaps q).map T.int ++ [T.int (q[0] + s - q[l.toNat - 1]'(by omega))] = (gaps q ++ [q.headD 0 + s - q.getLastD 0]).map T.int := by
      rw [← hx]
      simp
    have sn : (s.toNat : Int) = s := by omega
    simp [-List.map_append, backE, mask, x0, x1, ls, szl, sn, show (gaps q).length + 1 ≤ 16777216 by omega]
    rw [em, op_minL_ints, nm]
    simp [mask]
theorem blk_gap {s k b c : Nat} (hk : 0 < k) (hbc : b < c) (hc : c < k) : ((c - b) * (s / k) : Nat) ≤ blk s k c - blk s k b ∧ blk s k c - blk s k b ≤ s - (s / k : Nat) ∧ 0 ≤ blk s k b := by
  rw [blkN, blkN]
  have es := Nat.div_add_mod s k
  have h1 : (c + 1) * (s / k) ≤ k * (s / k) := Nat.mul_le_mul_right _ hc
  obtain ⟨e, rfl⟩ : ∃ e, c = b + e := ⟨c - b, by omega⟩
  rw [Nat.add_mul, Nat.add_mul] at h1
  rw [Nat.add_sub_cancel_left, Nat.add_mul]
  have h2 : 0 ≤ b * (s / k) := Nat.zero_le _
  generalize b * (s / k) = x at *
  generalize e * (s / k) = y at *
  omega
/-- two slots of a run that is no longer than a column -/
theorem th_far {s k a b : Nat} (hk : 0 < k) (h4 : k ≤ s) (hab : a < b) (h : a / k = b / k ∨ (b / k = a / k + 1 ∧ b % k + 2 ≤ a % k)) : (s / k : Nat) ≤ (if th s k a < th s k b then th s k b - th s k a else th s k a - th s k b) ∧ (if th s k a < th s k b then th s k b - th s k a else th s k a - th s k b) ≤ s - (s / k : Nat) := by
  have ea := Nat.div_add_mod a k
  have eb := Nat.div_add_mod b k
  have ma := Nat.mod_lt a hk
  have mb := Nat.mod_lt b hk
  have ta : th s k a = blk s k (a % k : Nat) + (a / k : Nat) := by
    have := thN (s := s) (k := k) (c := a / k) (b := a % k) ma
    rwa [show a / k * k + a % k = a by rw [Nat.mul_comm]; exact ea] at this
  have tb : th s k b = blk s k (b % k : Nat) + (b / k : Nat) := by
    have := thN (s := s) (k := k) (c := b / k) (b := b % k) mb
    rwa [show b / k * k + b % k = b by rw [Nat.mul_comm]; exact eb] at this
  have L1 : 1 ≤ s / k := Nat.div_pos h4 hk
  rcases h with h | ⟨h, h2⟩
  · have hlt : a % k < b % k := by rw [h] at ea; omega
    obtain ⟨g1, g2, g3⟩ := blk_gap (s := s) hk hlt mb
    have : 1 * (s / k) ≤ (b % k - a % k) * (s / k) := Nat.mul_le_mul_right _ (by omega)
    rw [h] at ta
    rw [ta, tb, if_pos (by omega)]
    omega
  · obtain ⟨g1, g2, g3⟩ := blk_gap (s := s) hk (show b % k < a % k by omega) ma
    have : 2 * (s / k) ≤ (a % k - b % k) * (s / k) := Nat.mul_le_mul_right _ (by omega)
    rw [h] at tb
    rw [ta, tb, if_neg (by omega)]
    omega
def FarR (L n : Int) (x y : Int) : Prop := L ≤ (if x < y then y - x else x - y) ∧ (if x < y then y - x else x - y) ≤ n - L
theorem FarR.symm {L n x y : Int} (h : FarR L n x y) : FarR L n y x := by
  unfold FarR at *
  split at h <;> split <;> omega
theorem near_far {L n : Int} {ns : List Int} (h0 : 0 < ns.length) (hL : L ≤ n) (h1 : 1 ≤ L) (h : ns.Pairwise (FarR L n)) : L ≤ near n (sortI ns) := by
  have p := sortI_perm ns
  have hs := sortI_sorted ns
  have hf : (sortI ns).Pairwise (FarR L n) := (p.pairwise_iff fun {x y} h => h.symm).mpr h
  have hl := p.length_eq
  generalize sortI ns = q at *
  obtain ⟨m1, _⟩ := foldl_min (gaps q) (q.headD 0 + n - q.getLastD 0)
  have q0 : 0 < q.length := by omega
  have e1 : q.headD 0 = q[0] := by
    cases q with
    | nil => cases q0
    | cons a q => rfl
  have e2 : q.getLastD 0 = q[q.length - 1]'(by omega) := by
    rw [List.getLastD_eq_getLast?, List.getLast?_eq_getElem?, List.getElem?_eq_getElem (by omega)]
    rfl
  have get := List.pairwise_iff_getElem.mp hf
  have gets := List.pairwise_iff_getElem.mp hs
  unfold near
  rcases List.mem_cons.mp m1 with e | e
  · rw [e, e1, e2]
    by_cases c : q.length = 1
    · have : q[q.length - 1]'(by omega) = q[0] := by congr 1; omega
      rw [this]; omega
    · have a1 := get 0 (q.length - 1) (by omega) (by omega) (by omega)
      have a2 := gets 0 (q.length - 1) (by omega) (by omega) (by omega)
      unfold FarR at a1
      split at a1 <;> omega
  · obtain ⟨i, hi, hv⟩ := List.mem_iff_getElem.mp e
    rw [gaps_len] at hi
    have gg := gaps_get q i (by omega)
    rw [List.getElem?_eq_getElem (by rw [gaps_len]; omega)] at gg
    rw [← hv, Option.some.inj gg]
    have a1 := get i (i + 1) (by omega) (by omega) (by omega)
    have a2 := gets i (i + 1) (by omega) (by omega) (by omega)
    unfold FarR at a1
    split at a1 <;> omega
theorem run_far {s k p l : Nat} (h3 : 1 ≤ k) (h4 : k ≤ s) (h0 : 1 ≤ l) (h : l < k ∨ (l = k ∧ p % k = 0)) : ((s / k : Nat) : Int) ≤ near s (sortI (runN s k p l)) := by
  have L1 : 1 ≤ s / k := Nat.div_pos h4 h3
  have Ls : s / k ≤ s := Nat.div_le_self s k
  refine near_far (by rw [runN_len]; omega) (by omega) (by omega) ?_
  unfold runN
  rw [List.pairwise_map]
  refine List.pairwise_lt_range.imp_of_mem fun {i j} hi hj hij => ?_
  have hi := List.mem_range.mp hi
  have hj := List.mem_range.mp hj
  have e1 : (p : Int) + (i : Nat) = ((p + i : Nat) : Int) := by omega
  have e2 : (p : Int) + (j : Nat) = ((p + j : Nat) : Int) := by omega
  rw [e1, e2]
  refine th_far h3 h4 (by omega) ?_
  have hj : j < l := by simpa using hj
  have ea := Nat.div_add_mod (p + i) k
  have eb := Nat.div_add_mod (p + j) k
  have ma := Nat.mod_lt (p + i) h3
  have mb := Nat.mod_lt (p + j) h3
  have hle : (p + i) / k ≤ (p + j) / k := Nat.div_le_div_right (by omega)
  have hle2 : (p + j) / k ≤ (p + i) / k + 1 := by
    have : (p + j) / k ≤ (p + i + k) / k := Nat.div_le_div_right (by omega)
    rwa [Nat.add_div_right _ h3] at this
  rcases Nat.lt_or_ge ((p + i) / k) ((p + j) / k) with c | c
  · have ec : (p + j) / k = (p + i) / k + 1 := by omega
    rcases h with h | ⟨h, h'⟩
    · refine .inr ⟨ec, ?_⟩
      rw [ec, Nat.mul_add] at eb
      omega
    · exfalso
      have ep := Nat.div_add_mod p k
      have q1 : (p + j) / k ≤ p / k := by
        have : (p + j) / k < p / k + 1 := by
          rw [Nat.div_lt_iff_lt_mul h3, Nat.add_mul, Nat.mul_comm (p / k) k]
          omega
        omega
      have q2 : p / k ≤ (p + i) / k := Nat.div_le_div_right (by omega)
      omega
  · exact .inl (by omega)
theorem celN_slots (s k b : Nat) : (celN s k b).map (fun x => x.2.2) = (List.range (b * (s / k) + min b (s % k))).map fun i : Nat => (i : Int) := by
  induction b with
  | zero => simp [celN]
  | succ b ih =>
    rw [celN_succ, List.map_append, ih]
    have e : (b + 1) * (s / k) + min (b + 1) (s % k) = (b * (s / k) + min b (s % k)) + ln s k b := by
      unfold ln
      rw [Nat.add_mul]
      split <;> omega
    have hb := blkN (s := s) (k := k) (b := b)
    rw [e]
    generalize b * (s / k) + min b (s % k) = x at *
    rw [List.range_add, List.map_append]
    congr 1
    unfold blkC
    rw [List.map_map, List.map_map]
    refine List.map_congr_left fun c _ => ?_
    simp only [Function.comp]
    rw [hb]
    omega
theorem near_all {s k : Nat} (h1 : 1 ≤ s) (h3 : 1 ≤ k) : near s (sortI (runN s k 0 s)) = 1 := by
  have e0 : runN s k 0 s = (celP s k).map fun x => x.2.2 := by
    unfold celP runN
    rw [List.map_map]
    refine List.map_congr_left fun i _ => ?_
    simp
  have es := Nat.div_add_mod s k
  have rk := Nat.mod_lt s h3
  have p : (runN s k 0 s).Perm ((List.range s).map fun i : Nat => (i : Int)) := by
    rw [e0]
    have := (perm_cel (s := s) h3).map fun x : Nat × Nat × Int => x.2.2
    rw [celN_slots] at this
    rwa [show k * (s / k) + min k (s % k) = s by rw [Nat.min_eq_right (by omega)]; exact es] at this
  have hq : ((List.range s).map fun i : Nat => (i : Int)) = sortI (runN s k 0 s) := sortI_uniq p.symm (by
    rw [List.pairwise_map]
    exact List.pairwise_lt_range.imp fun h => by omega)
  rw [← hq]
  obtain ⟨m1, _⟩ := foldl_min (gaps ((List.range s).map fun i : Nat => (i : Int))) (((List.range s).map fun i : Nat => (i : Int)).headD 0 + s - ((List.range s).map fun i : Nat => (i : Int)).getLastD 0)
  unfold near
  rcases List.mem_cons.mp m1 with e | e
  · rw [e]
    have e1 : ((List.range s).map fun i : Nat => (i : Int)).headD 0 = 0 := by
      cases s with
      | zero => rfl
      | succ s => rw [List.range_succ_eq_map]; rfl
    have e2 : ((List.range s).map fun i : Nat => (i : Int)).getLastD 0 = (s : Int) - 1 := by
      obtain ⟨t, rfl⟩ : ∃ t, s = t + 1 := ⟨s - 1, by omega⟩
      rw [List.range_succ, List.map_append]
      simp
    rw [e1, e2]; omega
  · obtain ⟨i, hi, hv⟩ := List.mem_iff_getElem.mp e
    rw [gaps_len] at hi
    have gg := gaps_get _ i (show i + 1 < ((List.range s).map fun i : Nat => (i : Int)).length by omega)
    rw [List.getElem?_eq_getElem (by rw [gaps_len]; exact hi)] at gg
    rw [← hv, Option.some.inj gg]
    simp
    omega
/-- what is due of a run -/
def ansI (s k p l : Int) : Int := if l = 0 then 0 else near s (sortI (runN s k p l))
def toldI (i : Int) : T := .tup [.str "told", .int i]
theorem got_v {m : Nat} {s k p l : Int} {nm : Bool} (hm : 6 ≤ m) (r : Rg s k) (h5 : 0 ≤ p) (h6 : p < s) (h7 : 0 ≤ l) (h8 : l ≤ s - p) : Mn ds m 20 [.int s, .int k, .int p, .int l, .bl nm] = R 5 (.ok (toldI (ansI s k p l))) := by
  refine okF_R (d := d__law_got) (by omega) rfl rfl fun j hj => run_of rfl ?_
  have e := nearest (m := j) (by omega) r h5 h6 h7 h8
  cases nm <;> simp [d__law_got, b__law_got, pinsOf, List.replicate, mask, e, szl, toldI, ansI]
theorem near_x {m : Nat} {a b p l : T} {c : Nat} {fs : List T} (hm : 5 ≤ m) (ha : isIB a) (hb : isIB b) (hp : isIB p) (hl : isIB l) (h : RunX a b p l c fs) : ∃ ios, Mn ds m 8 [a, b, p, l] = .exc c fs ios := by
  refine okF_eqx (mn_at (d := d_run_nearest) (by omega) rfl rfl fun j hj => run_of rfl ?_)
  obtain ⟨_, e⟩ := chkX (m := j) (by omega) ha hb hp hl h
  simp [d_run_nearest, b_run_nearest, pinsOf, List.replicate, e, ha.fz, hb.fz, hp.fz, hl.fz, h.err.2]
theorem isIB.noe {v : T} (h : isIB v) : v.noe = true := by rcases h with ⟨_, rfl⟩ | ⟨_, rfl⟩ <;> rfl
theorem isIB.fk {v : T} (h : isIB v) : v.fk = v := by rcases h with ⟨_, rfl⟩ | ⟨_, rfl⟩ <;> rfl
theorem got_x {m : Nat} {a b p l : T} {nm : Bool} {d : Nat × List T} (hm : 6 ≤ m) (ha : isIB a) (hb : isIB b) (hp : isIB p) (hl : isIB l) (h : RunX a b p l d.1 d.2) : Mn ds m 20 [a, b, p, l, .bl nm] = R 5 (.ok (errT d)) := by
  refine okF_R (d := d__law_got) (by omega) rfl rfl fun j hj => run_of rfl ?_
  obtain ⟨_, ex⟩ := near_x (m := j) (by omega) ha hb hp hl h
  have hs : ¬ (Str.ofString "what" = Str.ofString "limit") := by decide
  have ok := h.err.1
  obtain ⟨c, fs⟩ := d
  simp only at ok ex
  rcases ok with ⟨rfl, w, i, rfl⟩ | ⟨rfl, w, rfl⟩
  · cases nm <;> simp [d__law_got, b__law_got, pinsOf, List.replicate, mask, ex, szl, isSub, flds, hs, errT, ha.fz, hb.fz, hp.fz, hl.fz, ha.noe, hb.noe, hp.noe, hl.noe]
  · cases nm <;> simp [d__law_got, b__law_got, pinsOf, List.replicate, mask, ex, szl, isSub, flds, hs, errT, ha.fz, hb.fz, hp.fz, hl.fz, ha.noe, hb.noe, hp.noe, hl.noe]
/-- runs: place, length -/
def rnT (x : Int × Int) : T := .tup [.int x.1, .int x.2]
def RunsOk (s : Int) (rs : List (Int × Int)) : Prop := ∀ x ∈ rs, 0 ≤ x.1 ∧ x.1 < s ∧ 0 ≤ x.2 ∧ x.2 ≤ s - x.1
theorem runs {m n : Nat} {t : T} {s k : Int} (hm : 5 ≤ m) (h : St n t) (hn : n < 2 ^ 75) (r : Rg s k) : okF (Mn ds m 23 [t, .int s, .int k]) (fun _ _ _ => False) fun x ios => ∃ (rs : List (Int × Int)) (t' : T), x = .lst true (rs.map rnT) ∧ RunsOk s rs ∧ rs.length ≤ 1000 ∧ ios = [some t', none, none] ∧ St (n + 100) t' := by
  refine mn_at (d := d__law_runs) (by omega) rfl rfl fun j hj => run_ofD rfl fun D kr _ _ => ?_
  have h1 := r.h1
  have h2 := r.h2
  have h3 := r.h3
  have h4 := r.h4
  by_cases c : s ≤ 5
  · simp [d__law_runs, b__law_runs, pinsOf, List.replicate, c, rngT_1, show s < 4611686018427387904 by omega, show -4611686018427387904 ≤ s by omega]
    refine wLoop_ri (fun i g => ∃ (rs : List (Int × Int)) (x : Option T), g = [some t, some (.int s), some (.int k), some (.lst true (rs.map rnT)), none, x, none] ∧ RunsOk s rs ∧ rs.length ≤ 10 * i) ⟨[], none, rfl, (fun _ h => nomatch h), Nat.le_refl _⟩ ?_ ?_
    · rintro i g hi ⟨rs, x, rfl, ho, hl⟩
      have hi : i < s.toNat := by simpa using hi
      simp [rngT_1, show s - (i : Int) + 1 < 4611686018427387904 by omega, show -4611686018427387904 ≤ s - (i : Int) + 1 by omega]
      refine wComp_all (fun u : Nat => rnT ((i : Int), (u : Int))) (by simp) (by simp [szl]; omega) (fun u hu => by simp [szl, rnT]) ?_
      simp [backE, szl, show rs.length + (s - (i : Int) + 1).toNat ≤ 16777216 by omega]
      refine iv ⟨rs ++ (List.range (s - (i : Int) + 1).toNat).map fun u : Nat => ((i : Int), (u : Int)), some (.int i), by simp [rnT, Function.comp_def], ?_, by simp; omega⟩
      intro y hy
      rcases List.mem_append.mp hy with hy | hy
      · exact ho y hy
      · obtain ⟨u, hu, rfl⟩ := List.mem_map.mp hy
        have hu := List.mem_range.mp hu
        simp only
        omega
    · rintro g ⟨rs, x, rfl, ho, hl⟩
      simp
      exact kr _ _ ⟨rs, t, rfl, ho, by omega, rfl, h.mono (by omega)⟩
  · have dv : okDiv k = true := okS_div (by omega) (by omega)
    have q1 : 1 ≤ s / k := by rw [Int.le_ediv_iff_mul_le (by omega)]; omega
    have q2 : s / k ≤ s := Int.ediv_le_self k (by omega)
    have q3 : s / k * k ≤ s := Int.ediv_mul_le s (by omega)
    simp [d__law_runs, b__law_runs, pinsOf, List.replicate, c]
    rw [show rngT [T.int 4] = some ((List.range 4).map fun k : Nat => T.int (0 + (k : Int))) from rfl]
    simp only [isSm_some]
    refine wLoop_ri (fun i g => ∃ (s' : T) (rs : List (Int × Int)) (x y : Option T), g = [some s', some (.int s), some (.int k), some (.lst true (rs.map rnT)), x, y, none] ∧ RunsOk s rs ∧ rs.length ≤ 10 * i ∧ St (n + 20 * i) s') ⟨t, [], none, none, rfl, (fun _ h => nomatch h), Nat.le_refl _, h⟩ ?_ ?_
    · rintro i g hi ⟨s', rs, x, y, rfl, ho, hl, hs⟩
      obtain ⟨_, _, e1, p, t1, rfl, rfl, w1, _, r1⟩ := okF_ex (takeM (j := j) (bd := s) (by omega) hs (by omega) (by omega))
      obtain ⟨p0, p1⟩ := r1 (by omega)
      obtain ⟨_, _, e2, l, t2, rfl, rfl, w2, l0, l1⟩ := okF_ex (edge (m := j) (lo := 0) (hi := s - p) (by omega) w1 (by omega) (by omega))
      have l1 := l1 (by omega)
      obtain ⟨_, _, e3, u, t3, rfl, rfl, w3, _, r3⟩ := okF_ex (takeM (j := j) (bd := 3) (by omega) w2 (by omega) (by omega))
      obtain ⟨u0, u1⟩ := r3 (by omega)
      obtain ⟨_, _, e4, v, t4, rfl, rfl, w4, z4, r4⟩ := okF_ex (takeM (j := j) (bd := s / k) (by omega) w3 (by omega) (by omega))
      have vv : 0 ≤ v ∧ v < s / k := by
        by_cases h : s / k < 2
        · have := z4 h; omega
        · exact r4 (by omega)
      have bm : bigMul k v = true := bigS (by omega) (by omega) (by omega) (by omega)
      have kv : k * v + k ≤ s := by
        have : k * (v + 1) ≤ k * (s / k) := Int.mul_le_mul_of_nonneg_left (by omega) (by omega)
        rw [Int.mul_add, Int.mul_one, Int.mul_comm k (s / k)] at this
        omega
      have kv0 : 0 ≤ k * v := Int.mul_nonneg (by omega) vv.1
      simp [e1, e2, e3, e4, szl, dv, bm, show (0 : Int) < k by omega]
      refine ⟨by omega, by omega, by omega, iv ⟨t4, rs ++ [(p, l), (p, if (if k - u > 0 then k - u else 0) < s - p then (if k - u > 0 then k - u else 0) else s - p), (k * v, k)], some (.int i), some (.int p), ?_, ?_, ?_, ?_⟩⟩
      · simp [rnT]
      · intro y hy
        rcases List.mem_append.mp hy with hy | hy
        · exact ho y hy
        · simp only [List.mem_cons, List.not_mem_nil, or_false] at hy
          rcases hy with rfl | rfl | rfl
          · simp only; omega
          · simp only
            refine ⟨p0, p1, ?_, ?_⟩ <;> (split <;> (try split) <;> omega)
          · simp only; omega
      · simp; omega
      · exact w4.mono (by omega)
    · rintro g ⟨s', rs, x, y, rfl, ho, hl, hs⟩
      simp
      exact kr _ _ ⟨rs, s', rfl, ho, by omega, rfl, hs.mono (by omega)⟩
/-- a fault: how soon it is told, what is told -/
def ftT (k : Int) (d : Nat × List T) : T := .tup [.int k, errT d]
theorem ft_min1 {o : Bool} {k : Int} {d : Nat × List T} (h : ErrOk d.1 d.2) : opS .minL [.lst o [ftT k d]] = some (ftT k d) := by
  obtain ⟨c, fs⟩ := d
  rcases h with ⟨h1, w, i, h2⟩ | ⟨h1, w, h2⟩
  · simp only at h1 h2
    subst h1 h2
    rfl
  · simp only at h1 h2
    subst h1 h2
    rfl
theorem ft_ok {k l : Int} {d e : Nat × List T} (h : ErrOk d.1 d.2) (h' : ErrOk e.1 e.2) : dataOk [ftT k d, ftT l e] = true := by
  obtain ⟨c, fs⟩ := d
  obtain ⟨c', fs'⟩ := e
  rcases h with ⟨h1, w, i, h2⟩ | ⟨h1, w, h2⟩ <;> rcases h' with ⟨h3, w', i', h4⟩ | ⟨h3, w', h4⟩ <;> (simp only at h1 h2 h3 h4; subst h1 h2 h3 h4; rfl)
theorem ft_min2 {o : Bool} {k l : Int} {d e : Nat × List T} (h : ErrOk d.1 d.2) (h' : ErrOk e.1 e.2) (hk : k ≠ l) : opS .minL [.lst o [ftT k d, ftT l e]] = some (if l < k then ftT l e else ftT k d) := by
  have e1 : opS .minL [.lst o [ftT k d, ftT l e]] = if dataOk [ftT k d, ftT l e] = true then bestT PySem.W.dataLt [ftT k d, ftT l e] else none := rfl
  rw [e1, if_pos (ft_ok h h')]
  have e2 : PySem.W.dataLt (ftT l e).toD (ftT k d).toD = decide (l < k) := dataLt_fst (fun z => hk z.symm) _ _
  show some (if PySem.W.dataLt (ftT l e).toD (ftT k d).toD = true then ftT l e else ftT k d) = _
  rw [e2]
  simp
theorem ft_idx {k : Int} {d : Nat × List T} : opS .idx [ftT k d, .int 1] = some (errT d) := by simp [ftT]
theorem ErrOk.errT {d : Nat × List T} (h : ErrOk d.1 d.2) : okT 1 (Lw.errT d) ∧ (Lw.errT d).deep = true := by
  obtain ⟨c, fs⟩ := d
  rcases h with ⟨h1, w, i, h2⟩ | ⟨h1, w, h2⟩
  · simp only at h1 h2
    subst h1 h2
    exact ⟨⟨len_lt _ (by simp), by simp [okT]⟩, rfl⟩
  · simp only at h1 h2
    subst h1 h2
    exact ⟨⟨len_lt _ (by simp), by simp [okT]⟩, rfl⟩
def bodyF : Sms := match b__law_faults with | .cons _ (.cons _ (.cons _ (.cons (.loop _ _ b) _))) => b | _ => .nil
/-- what is wrong with the ith argument, how soon it is told -/
def Fk (s p i : Int) (v : T) (key : Int) (d : Nat × List T) : Prop := (i = 0 ∧ ((∃ x : Int, v = .int x ∧ 240 < x ∧ key = 0 ∧ d = (1, [.str "slots", .int 240])) ∨ (Low 1 v ∧ key = 10 ∧ d = (2, [.str "slots"])))) ∨ (i = 1 ∧ Off 1 s v ∧ key = 11 ∧ d = (2, [.str "many"])) ∨ (i = 2 ∧ Off 0 (s - 1) v ∧ key = 12 ∧ d = (2, [.str "place"])) ∨ (i = 3 ∧ Off 0 (s - p) v ∧ key = 13 ∧ d = (2, [.str "length"]))
theorem Fk.ok {s p i key : Int} {v : T} {d : Nat × List T} (h : Fk s p i v key d) : ErrOk d.1 d.2 ∧ (ftT key d).fz = ftT key d := by
  rcases h with ⟨rfl, ⟨x, rfl, hx, rfl, rfl⟩ | ⟨hl, rfl, rfl⟩⟩ | ⟨rfl, ho, rfl, rfl⟩ | ⟨rfl, ho, rfl, rfl⟩ | ⟨rfl, ho, rfl, rfl⟩
  · exact ⟨.inl ⟨rfl, _, _, rfl⟩, rfl⟩
  all_goals exact ⟨.inr ⟨rfl, _, rfl⟩, rfl⟩
def ge (s k p : Int) (t : T) (gv fl : List T) (x6 x7 x8 x9 : Option T) : Kv.Env := [some t, some (.int s), some (.int k), some (.int p), some (.lst true gv), some (.lst true fl), x6, x7, x8, x9]
theorem step32 {j M : Nat} {s k p i : Int} {t : T} {gv fl : List T} {x6 x8 x9 : Option T} {D : Dp} (hj : 6 ≤ j) (hM : M < 2 ^ 70) (r : Rg s k) (p0 : 0 ≤ p) (p1 : p < s) (i0 : 0 ≤ i) (i1 : i < 4) (hs : St M t) (hg : gv.length = 4) (hf : fl.length ≤ 2)
    (K : ∀ (t : T) (v : T) (key : Int) (d : Nat × List T) (x9 : Option T), St (M + 4) t → isIB v → Fk s p i v key d → D.nx (ge s k p t (gv.set i.toNat v) (fl ++ [ftT key d]) x6 (some (.int i)) x8 x9)) :
    wss (Mn ds j) bodyF [0] (ge s k p t gv fl x6 (some (.int i)) x8 x9) D := by
  have s1 := r.h1
  have s2 := r.h2
  have sz0 : fl.length < 16777216 := by omega
  have hs' : ¬ (Str.ofString "TooLarge" = Str.ofString "Malformed") := by decide
  have bm0 : bigMul 10 0 = true := by decide +kernel
  have bm1 : bigMul 10 1 = true := by decide +kernel
  have : i = 0 ∨ i = 1 ∨ i = 2 ∨ i = 3 := by omega
  rcases this with rfl | rfl | rfl | rfl
  · obtain ⟨r0, _, e0, t0, o0, rfl, g0⟩ := okF_ex (outOf (m := j) (lo := 1) (hi := 240) (what := "slots") (by omega) hs (by omega))
    rcases o0 with ⟨x, hx, rfl⟩ | ⟨x, hx, rfl⟩ | ⟨b, rfl⟩
    · have q := K t0 (.int x) 0 (1, [.str "slots", .int 240]) (some (.tup [.int x, .tup [.str "TooLarge", .str "slots", .int 240]])) (g0.mono (by omega)) (.inr ⟨x, rfl⟩) (.inl ⟨rfl, .inl ⟨x, rfl, hx, rfl, rfl⟩⟩)
      simp [bodyF, b__law_faults, ge, e0, hg, szl, sz0, hs', bm0, bm1]
      simpa [ge, ftT, errT] using q
    · have q := K t0 (.int x) 10 (2, [.str "slots"]) (some (.tup [.int x, .tup [.str "Malformed", .str "slots"]])) (g0.mono (by omega)) (.inr ⟨x, rfl⟩) (.inl ⟨rfl, .inr ⟨.inr ⟨x, rfl, hx⟩, rfl, rfl⟩⟩)
      simp [bodyF, b__law_faults, ge, e0, hg, szl, sz0, hs', bm0, bm1]
      simpa [ge, ftT, errT] using q
    · have q := K t0 (.bl b) 10 (2, [.str "slots"]) (some (.tup [.bl b, .tup [.str "Malformed", .str "slots"]])) (g0.mono (by omega)) (.inl ⟨b, rfl⟩) (.inl ⟨rfl, .inr ⟨.inl ⟨b, rfl⟩, rfl, rfl⟩⟩)
      simp [bodyF, b__law_faults, ge, e0, hg, szl, sz0, hs', bm0, bm1]
      simpa [ge, ftT, errT] using q
  · obtain ⟨v, _, e0, t0, ho, hv, rfl, g0⟩ := okF_ex (outPlace (m := j) (s := s + 1) (by omega) hs (by omega) (by omega) (by omega))
    obtain ⟨_, _, e1, b, t1, rfl, rfl, g1⟩ := okF_ex (chance (m := j) (bd := 4) (by omega) g0 (by omega) (by omega))
    cases b with
    | true =>
      have q := K t1 (.int 0) 11 (2, [.str "many"]) x9 (g1.mono (by omega)) (.inr ⟨0, rfl⟩) (.inr (.inl ⟨rfl, .inr ⟨0, rfl, .inl (by omega)⟩, rfl, rfl⟩))
      simp [bodyF, b__law_faults, ge, e0, e1, hg, szl, sz0, hv.fz]
      simpa [ge, ftT, errT] using q
    | false =>
      by_cases ho' : Off 1 s v
      · have q := K t1 v 11 (2, [.str "many"]) x9 (g1.mono (by omega)) hv (.inr (.inl ⟨rfl, ho', rfl, rfl⟩))
        simp [bodyF, b__law_faults, ge, e0, e1, hg, szl, sz0, hv.fz]
        simpa [ge, ftT, errT] using q
      · exfalso
        apply ho'
        rcases ho with ⟨b, rfl⟩ | ⟨x, rfl, hx⟩
        · exact .inl ⟨b, rfl⟩
        · exact .inr ⟨x, rfl, by omega⟩
  · obtain ⟨v, _, e0, t0, ho, hv, rfl, g0⟩ := okF_ex (outPlace (m := j) (s := s) (by omega) hs (by omega) (by omega) (by omega))
    have q := K t0 v 12 (2, [.str "place"]) x9 (g0.mono (by omega)) hv (.inr (.inr (.inl ⟨rfl, ho, rfl, rfl⟩)))
    simp [bodyF, b__law_faults, ge, e0, hg, szl, sz0, hv.fz]
    simpa [ge, ftT, errT] using q
  · obtain ⟨v, _, e0, t0, ho, hv, rfl, g0⟩ := okF_ex (outPlace (m := j) (s := s - p + 1) (by omega) hs (by omega) (by omega) (by omega))
    have ho : Off 0 (s - p) v := by
      have : s - p + 1 - 1 = s - p := by omega
      rwa [this] at ho
    have q := K t0 v 13 (2, [.str "length"]) x9 (g0.mono (by omega)) hv (.inr (.inr (.inr ⟨rfl, ho, rfl, rfl⟩)))
    simp [bodyF, b__law_faults, ge, e0, hg, szl, sz0, hv.fz]
    simpa [ge, ftT, errT] using q
theorem due0 {s p : Int} {a b c l : T} {key : Int} {d : Nat × List T} (h : Fk s p 0 a key d) : RunX a b c l d.1 d.2 := by
  rcases h with ⟨_, ⟨x, rfl, hx, rfl, rfl⟩ | ⟨hl, rfl, rfl⟩⟩ | ⟨h, _⟩ | ⟨h, _⟩ | ⟨h, _⟩
  · exact .inl (.inl (.inl ⟨x, rfl, hx, rfl, rfl⟩))
  · exact .inl (.inl (.inr (.inl ⟨hl, rfl, rfl⟩)))
  all_goals exact absurd h (by decide)
theorem due1 {s k p : Int} {b c l : T} {key : Int} {d : Nat × List T} (r : Rg s k) (h : Fk s p 1 b key d) : RunX (.int s) b c l d.1 d.2 := by
  rcases h with ⟨h, _⟩ | ⟨_, h, rfl, rfl⟩ | ⟨h, _⟩ | ⟨h, _⟩
  · exact absurd h (by decide)
  · exact .inl (.inl (.inr (.inr ⟨s, rfl, r.h1, r.h2, h, rfl, rfl⟩)))
  all_goals exact absurd h (by decide)
theorem due2 {s k p : Int} {c l : T} {key : Int} {d : Nat × List T} (r : Rg s k) (h : Fk s p 2 c key d) : RunX (.int s) (.int k) c l d.1 d.2 := by
  rcases h with ⟨h, _⟩ | ⟨h, _⟩ | ⟨_, h, rfl, rfl⟩ | ⟨h, _⟩
  · exact absurd h (by decide)
  · exact absurd h (by decide)
  · exact .inl (.inr ⟨s, k, rfl, rfl, r, h, rfl, rfl⟩)
  · exact absurd h (by decide)
theorem due3 {s k p : Int} {l : T} {key : Int} {d : Nat × List T} (r : Rg s k) (p0 : 0 ≤ p) (p1 : p < s) (h : Fk s p 3 l key d) : RunX (.int s) (.int k) (.int p) l d.1 d.2 := by
  rcases h with ⟨h, _⟩ | ⟨h, _⟩ | ⟨h, _⟩ | ⟨_, h, rfl, rfl⟩
  · exact absurd h (by decide)
  · exact absurd h (by decide)
  · exact absurd h (by decide)
  · exact .inr ⟨s, k, p, rfl, rfl, rfl, r, p0, p1, h, rfl, rfl⟩
theorem Fk.key {s p i key : Int} {v : T} {d : Nat × List T} (h : Fk s p i v key d) : (i = 0 ∧ key ≤ 10) ∨ (0 < i ∧ key = 10 + i) := by
  rcases h with ⟨rfl, ⟨x, _, _, rfl, _⟩ | ⟨_, rfl, _⟩⟩ | ⟨rfl, _, rfl, _⟩ | ⟨rfl, _, rfl, _⟩ | ⟨rfl, _, rfl, _⟩ <;> omega
/-- one wrong argument -/
theorem dueA {s k p i key : Int} {v l : T} {d : Nat × List T} (r : Rg s k) (p0 : 0 ≤ p) (p1 : p < s) (i0 : 0 ≤ i) (i1 : i < 4) (hv : isIB v) (hl : isIB l) (h : Fk s p i v key d) : ∃ a b c e, [T.int s, T.int k, T.int p, l].set i.toNat v = [a, b, c, e] ∧ isIB a ∧ isIB b ∧ isIB c ∧ isIB e ∧ RunX a b c e d.1 d.2 := by
  have hi : ∀ x : Int, isIB (.int x) := fun x => .inr ⟨x, rfl⟩
  have : i = 0 ∨ i = 1 ∨ i = 2 ∨ i = 3 := by omega
  rcases this with rfl | rfl | rfl | rfl
  · exact ⟨_, _, _, _, rfl, hv, hi _, hi _, hl, due0 h⟩
  · exact ⟨_, _, _, _, rfl, hi _, hv, hi _, hl, due1 r h⟩
  · exact ⟨_, _, _, _, rfl, hi _, hi _, hv, hl, due2 r h⟩
  · exact ⟨_, _, _, _, rfl, hi _, hi _, hi _, hv, due3 r p0 p1 h⟩
theorem dueB {s k p i i' key : Int} {v v' l : T} {d : Nat × List T} (r : Rg s k) (p0 : 0 ≤ p) (p1 : p < s) (i0 : 0 ≤ i) (i1 : i < i') (i2 : i' < 4) (hv : isIB v) (hv' : isIB v') (hl : isIB l) (h : Fk s p i v key d) : ∃ a b c e, ([T.int s, T.int k, T.int p, l].set i.toNat v).set i'.toNat v' = [a, b, c, e] ∧ isIB a ∧ isIB b ∧ isIB c ∧ isIB e ∧ RunX a b c e d.1 d.2 := by
  have hi : ∀ x : Int, isIB (.int x) := fun x => .inr ⟨x, rfl⟩
  have : (i = 0 ∧ (i' = 1 ∨ i' = 2 ∨ i' = 3)) ∨ (i = 1 ∧ (i' = 2 ∨ i' = 3)) ∨ (i = 2 ∧ i' = 3) := by omega
  rcases this with ⟨rfl, rfl | rfl | rfl⟩ | ⟨rfl, rfl | rfl⟩ | ⟨rfl, rfl⟩
  · exact ⟨_, _, _, _, rfl, hv, hv', hi _, hl, due0 h⟩
  · exact ⟨_, _, _, _, rfl, hv, hi _, hv', hl, due0 h⟩
  · exact ⟨_, _, _, _, rfl, hv, hi _, hi _, hv', due0 h⟩
  · exact ⟨_, _, _, _, rfl, hi _, hv, hv', hl, due1 r h⟩
  · exact ⟨_, _, _, _, rfl, hi _, hv, hi _, hv', due1 r h⟩
  · exact ⟨_, _, _, _, rfl, hi _, hi _, hv, hv', due2 r h⟩
theorem faults32 {m n : Nat} {t : T} {s k p : Int} (hm : 7 ≤ m) (h : St n t) (hn : n < 2 ^ 69) (r : Rg s k) (p0 : 0 ≤ p) (p1 : p < s) : okF (Mn ds m 24 [t, .int s, .int k, .int p]) (fun _ _ _ => False) fun r ios => ∃ t' : T, r = .bl true ∧ ios = [some t', none, none, none] ∧ St (n + 100) t' := by
  refine mn_at (d := d__law_faults) (by omega) rfl rfl fun j hj => run_ofD rfl fun D kr _ _ => ?_
  have s1 := r.h1
  have s2 := r.h2
  have tail : ∀ (t2 : T) (gv fl : List T) (a b c e : T) (x6 x7 x9 : Option T) (key : Int) (d : Nat × List T), St (n + 50) t2 → gv = [a, b, c, e] → isIB a → isIB b → isIB c → isIB e → RunX a b c e d.1 d.2 → T.fzL fl = fl → opS .minL [.lst true fl] = some (ftT key d) → wss (Mn ds j) (Sms.drop 4 b__law_faults) [0] (ge s k p t2 gv fl x6 x7 none x9) D := by
    intro t2 gv fl a b c e x6 x7 x9 key d w2 hg ha hb hc he hx hf hmin
    subst hg
    obtain ⟨_, _, e3, b', t3, rfl, rfl, w3⟩ := okF_ex (chance (m := j) (bd := 2) (by omega) w2 (by omega) (by omega))
    have eg := got_x (m := j) (nm := b') (by omega) ha hb hc he hx
    have ok := hx.err.1
    obtain ⟨q1, q2⟩ := ok.errT
    obtain ⟨_, _, s1, rfl⟩ := okF_ex (same_ok 1 _ q1 j (by omega))
    have i1 := @ft_idx key d
    have fzE := q1.fz
    have fkE : (ftT key d).fk = ftT key d := by simp [ftT, fzE]
    have fzF : (ftT key d).fz = ftT key d := by simp [ftT, fzE]
    simp [b__law_faults, Sms.drop, ge, ha.fz, hb.fz, hc.fz, he.fz, e3, eg, q2, fzE, hf, hmin, i1, fkE, fzF, s1]
    exact kr _ _ ⟨t3, rfl, rfl, w3.mono (by omega)⟩
  obtain ⟨_, _, e1, l, t1, rfl, rfl, w1, z1, r1⟩ := okF_ex (takeM (j := j) (bd := s - p + 1) (by omega) h (by omega) (by omega))
  obtain ⟨_, _, e2, f, t2, rfl, rfl, w2, _, r2⟩ := okF_ex (takeM (j := j) (bd := 4) (by omega) w1 (by omega) (by omega))
  obtain ⟨f0, f1⟩ := r2 (by omega)
  obtain ⟨_, _, e3, u, t3, rfl, rfl, w3, _, r3⟩ := okF_ex (takeM (j := j) (bd := 3) (by omega) w2 (by omega) (by omega))
  obtain ⟨u0, u1⟩ := r3 (by omega)
  obtain ⟨_, _, e4, w, t4, rfl, rfl, w4, _, r4⟩ := okF_ex (takeM (j := j) (bd := 2) (by omega) w3 (by omega) (by omega))
  obtain ⟨v0, v1⟩ := r4 (by omega)
  have hl : isIB (.int l) := .inr ⟨l, rfl⟩
  refine wss_cut 4 ?_
  show wss _ (Sms.take 4 b__law_faults) _ _ { D with nx := fun g => wss _ (Sms.drop 4 b__law_faults) _ g D }
  generalize Sms.drop 4 b__law_faults = bb at tail ⊢
  have eb : Sms.take 4 b__law_faults = match b__law_faults with | .cons x (.cons y (.cons z (.cons (.loop q i _) _))) => .cons x (.cons y (.cons z (.cons (.loop q i bodyF) .nil))) | _ => .nil := rfl
  rw [eb]
  have key : ∀ {i : Int}, 0 ≤ i → i < 4 → ∀ {t : T} {gv fl : List T} {x6 x8 x9 : Option T} {D : Dp}, St (n + 10) t → gv.length = 4 → fl.length ≤ 2 → (∀ (t : T) (v : T) (key : Int) (d : Nat × List T) (x9 : Option T), St (n + 10 + 4) t → isIB v → Fk s p i v key d → D.nx (ge s k p t (gv.set i.toNat v) (fl ++ [ftT key d]) x6 (some (.int i)) x8 x9)) → wss (Mn ds j) bodyF [0] (ge s k p t gv fl x6 (some (.int i)) x8 x9) D := by
    intro i i0 i1 t gv fl x6 x8 x9 D hs hg hf K
    exact step32 (by omega) (by omega) r p0 p1 i0 i1 hs hg hf K
  have key2 : ∀ {i : Int}, 0 ≤ i → i < 4 → ∀ {t : T} {gv fl : List T} {x6 x8 x9 : Option T} {D : Dp}, St (n + 14) t → gv.length = 4 → fl.length ≤ 2 → (∀ (t : T) (v : T) (key : Int) (d : Nat × List T) (x9 : Option T), St (n + 14 + 4) t → isIB v → Fk s p i v key d → D.nx (ge s k p t (gv.set i.toNat v) (fl ++ [ftT key d]) x6 (some (.int i)) x8 x9)) → wss (Mn ds j) bodyF [0] (ge s k p t gv fl x6 (some (.int i)) x8 x9) D := by
    intro i i0 i1 t gv fl x6 x8 x9 D hs hg hf K
    exact step32 (by omega) (by omega) r p0 p1 i0 i1 hs hg hf K
  generalize bodyF = bd at key key2 ⊢
  obtain ⟨g, hg⟩ : ∃ g, g = (f + 1 + u) % 4 := ⟨_, rfl⟩
  have g0 : 0 ≤ g := by omega
  have g1 : g < 4 := by omega
  have gne : g ≠ f := by omega
  have : w = 0 ∨ w = 1 := by omega
  rcases this with rfl | rfl
  · simp [d__law_faults, b__law_faults, pinsOf, List.replicate, e1, e2, e3, e4, szl, ← hg]
    rw [show cutT [T.int f, T.int g] none (some 1) = [T.int f] from rfl]
    simp [wLoop_cons, wLoop_nil]
    refine key (x8 := none) (x9 := none) (gv := [.int s, .int k, .int p, .int l]) (fl := []) f0 f1 (w4.mono (by omega)) rfl (by simp) fun t v ky d x9 hs hv hk => ?_
    obtain ⟨a, b, c, e, q, ha, hb, hc, he, hx⟩ := dueA r p0 p1 f0 f1 hv hl hk
    show wss _ Sms.nil _ _ _
    rw [wss_nil]
    exact tail t _ _ a b c e _ _ _ ky d (hs.mono (by omega)) q ha hb hc he hx (by simp [hk.ok.2]) (ft_min1 hk.ok.1)
  · simp [d__law_faults, b__law_faults, pinsOf, List.replicate, e1, e2, e3, e4, szl, ← hg]
    rw [show cutT [T.int f, T.int g] none (some 2) = [T.int f, T.int g] from rfl]
    simp [wLoop_cons, wLoop_nil]
    refine key (x8 := none) (x9 := none) (gv := [.int s, .int k, .int p, .int l]) (fl := []) f0 f1 (w4.mono (by omega)) rfl (by simp) fun t v ky d x9 hs hv hk => ?_
    refine ⟨by simp [ge], ?_⟩
    show wss _ _ _ (ge s k p t ([T.int s, T.int k, T.int p, T.int l].set f.toNat v) ([] ++ [ftT ky d]) (some (T.int f)) (some (T.int g)) none x9) _
    refine key2 g0 g1 (hs.mono (by omega)) (by simp) (by simp) fun t v' ky' d' x9 hs' hv' hk' => ?_
    have k1 := hk.key
    have k2 := hk'.key
    have mn := ft_min2 (o := true) (k := ky) (l := ky') hk.ok.1 hk'.ok.1 (by omega)
    have fz : T.fzL ([ftT ky d] ++ [ftT ky' d']) = [ftT ky d] ++ [ftT ky' d'] := by simp [hk.ok.2, hk'.ok.2]
    rcases Int.lt_or_lt_of_ne gne with c' | c'
    · rw [if_pos (by omega)] at mn
      obtain ⟨a, b, c, e, q, ha, hb, hc, he, hx⟩ := dueB r p0 p1 g0 c' f1 hv' hv hl hk'
      rw [List.set_comm _ _ (by omega)] at q
      show wss _ Sms.nil _ _ _
      rw [wss_nil]
      exact tail t _ _ a b c e _ _ _ ky' d' (hs'.mono (by omega)) q ha hb hc he hx fz mn
    · rw [if_neg (by omega)] at mn
      obtain ⟨a, b, c, e, q, ha, hb, hc, he, hx⟩ := dueB r p0 p1 f0 c' g1 hv hv' hl hk
      show wss _ Sms.nil _ _ _
      rw [wss_nil]
      exact tail t _ _ a b c e _ _ _ ky d (hs'.mono (by omega)) q ha hb hc he hx fz mn
theorem far_i {s k p l : Int} (r : Rg s k) (p0 : 0 ≤ p) (l0 : 1 ≤ l) (h : l < k ∨ (l = k ∧ p % k = 0)) : s / k ≤ ansI s k p l := by
  obtain ⟨s, rfl⟩ : ∃ n : Nat, s = n := ⟨s.toNat, by have := r.h1; omega⟩
  obtain ⟨k, rfl⟩ : ∃ n : Nat, k = n := ⟨k.toNat, by have := r.h3; omega⟩
  obtain ⟨p, rfl⟩ : ∃ n : Nat, p = n := ⟨p.toNat, by omega⟩
  obtain ⟨l, rfl⟩ : ∃ n : Nat, l = n := ⟨l.toNat, by omega⟩
  have h3 := r.h3
  have h4 := r.h4
  unfold ansI
  rw [if_neg (by omega)]
  have := run_far (s := s) (k := k) (p := p) (l := l) (by omega) (by omega) (by omega) (by omega)
  exact this
theorem all_i {s k : Int} (r : Rg s k) : ansI s k 0 s = 1 := by
  obtain ⟨s, rfl⟩ : ∃ n : Nat, s = n := ⟨s.toNat, by have := r.h1; omega⟩
  obtain ⟨k, rfl⟩ : ∃ n : Nat, k = n := ⟨k.toNat, by have := r.h3; omega⟩
  have h1 := r.h1
  have h3 := r.h3
  unfold ansI
  rw [if_neg (by omega)]
  exact near_all (by omega) (by omega)
theorem thread_i {m : Nat} {s k : Int} (hm : 1 ≤ m) (r : Rg s k) : Mn ds m 21 [.int s, .int k] = R 2 (.ok (.lst true ((runN s k 0 s).map .int))) := by
  obtain ⟨s, rfl⟩ : ∃ n : Nat, s = n := ⟨s.toNat, by have := r.h1; omega⟩
  obtain ⟨k, rfl⟩ : ∃ n : Nat, k = n := ⟨k.toNat, by have := r.h3; omega⟩
  have h1 := r.h1
  have h2 := r.h2
  have h3 := r.h3
  have h4 := r.h4
  exact lawThread hm (by omega) (by omega) (by omega) (by omega)
theorem toldI_ok (i : Int) : okT 1 (toldI i) ∧ (toldI i).deep = true ∧ (toldI i).fz = toldI i := ⟨⟨len_lt _ (by simp), fun t ht => by
    simp only [List.mem_cons, List.not_mem_nil, or_false] at ht
    rcases ht with rfl | rfl <;> trivial⟩, rfl, rfl⟩
theorem law_bound {z : Int} (_ : Builtin.Int.intBits z ≤ 1048576) : True := trivial
theorem plain (ns : List Int) (hl : ns.length ≤ 63) (_ : ∀ z ∈ ns, Builtin.Int.intBits z ≤ 1048576) : ∃ ios, Mn ds 40 25 [.scr ns] = .ok (.bl true) ios := by
  suffices h : okF (Mn ds 40 25 [.scr ns]) (fun _ _ _ => False) fun r _ => r = .bl true by
    obtain ⟨_, ios, e, rfl⟩ := okF_ex h
    exact ⟨ios, e⟩
  refine mn_at (d := d_law) (by omega) rfl rfl fun j hj => run_ofD rfl fun D kr _ _ => ?_
  obtain ⟨t, _, e1, rfl, s1⟩ := okF_ex (storeM (m := j) (by omega) hl)
  obtain ⟨_, _, e2, s, t2, rfl, rfl, s2, a0, a1⟩ := okF_ex (size (m := j) (lo := 1) (sm := 9) (la := 240) (by omega) s1 (by omega) (by omega) (by omega) (by omega))
  obtain ⟨_, _, e3, k, t3, rfl, rfl, s3, b0, b1⟩ := okF_ex (edge (m := j) (lo := 1) (hi := s) (by omega) s2 (by omega) (by omega))
  have b1 := b1 (by omega)
  obtain ⟨_, _, e4, b, t4, rfl, rfl, s4⟩ := okF_ex (chance (m := j) (bd := 2) (by omega) s3 (by omega) (by omega))
  have fin : ∀ (t5 : T) (k : Int), St 100 t5 → Rg s k → wss (Mn ds j) (Sms.drop 4 b_law) [] [some (.scr ns), some t5, some (.int s), some (.int k), none, none, none, none, none, none, none] D := by
    intro t5 k s5 r
    have h3 := r.h3
    have h4 := r.h4
    have dv : okDiv k = true := okS_div (by omega) (by omega)
    have f1 := thread_i (m := j) (by omega) r
    obtain ⟨_, _, f2, nm, t6, rfl, rfl, s6⟩ := okF_ex (chance (m := j) (bd := 2) (by omega) s5 (by omega) (by omega))
    obtain ⟨_, _, f3, rs, t7, rfl, ro, rl, rfl, s7⟩ := okF_ex (runs (m := j) (by omega) s6 (by omega) r)
    have q0 : 0 ≤ s / k := Int.ediv_nonneg (by omega) (by omega)
    have q2 : s / k ≤ s := Int.ediv_le_self k (by omega)
    have bm : bigMul k (s / k) = true := bigS (by omega) (by omega) (by omega) (by omega)
    have k0 : 0 < k := by omega
    obtain ⟨us, hus⟩ : ∃ us, us = rs ++ rs.take 1 := ⟨_, rfl⟩
    have uo : RunsOk s us := fun x hx => by
      rw [hus] at hx
      rcases List.mem_append.mp hx with hx | hx
      · exact ro x hx
      · exact ro x (List.mem_of_mem_take hx)
    have ue : rs.map rnT ++ (rs.map rnT).take 1 = us.map rnT := by rw [hus]; simp
    have fzm : ∀ xs : List (Int × Int), T.fzL (xs.map rnT) = xs.map rnT := fun xs => fzL_id fun t ht => by
      obtain ⟨x, _, rfl⟩ := List.mem_map.mp ht
      rfl
    have ec : cutT (rs.map rnT) none (some 1) = (rs.take 1).map rnT := cut_hiM (by decide)
    have tl : (rs.take 1).length ≤ 1 := List.length_take_le _ _
    simp [-fzL_mp, -List.map_take, fzm, b_law, Sms.drop, f1, f2, f3, szl, ec, show rs.length + (rs.take 1).length ≤ 16777216 by omega]
    rw [← List.map_append, ← hus]
    refine ⟨by omega, ?_⟩
    refine wLoop_oi (fun _ _ g => ∃ (x7 x9 x10 : Option T), g = [some (.scr ns), some t7, some (.int s), some (.int k), some (.lst true ((runN s k 0 s).map .int)), some (.bl nm), some (.lst true (rs.map rnT)), x7, none, x9, x10]) ⟨none, none, none, rfl⟩ ?_ ?_
    · rintro pre ⟨p, l⟩ post g hu ⟨x7, x9, x10, rfl⟩
      obtain ⟨p0, p1, l0, l1⟩ := uo (p, l) (by rw [hu]; simp)
      simp only at p0 p1 l0 l1
      have g1 := lawNear (m := j) (k := k) (by omega) a0 a1 p0 p1 l0 (by omega)
      have g2 := got_v (m := j) (nm := nm) (by omega) r p0 p1 l0 l1
      change _ = R 3 (.ok (.int (ansI s k p l))) at g1
      have far := far_i (p := p) (l := l) r p0
      generalize ansI s k p l = a at *
      obtain ⟨o1, o2, o3⟩ := toldI_ok a
      obtain ⟨_, _, q1, rfl⟩ := okF_ex (same_ok 1 _ o1 j (by omega))
      simp only [toldI] at q1 g2
      simp [rnT, g1, g2, q1, szl, dv, bm, k0]
      have fin1 : ¬ (l = k ∧ p % k = 0 ∧ a < s / k) := fun h => by
        have := far (by omega) (.inr ⟨h.1, h.2.1⟩)
        omega
      have fin2 : ¬ (a < s / k ∧ 1 ≤ l ∧ l < k) := fun h => by
        have := far h.2.1 (.inl h.2.2)
        omega
      clear far
      repeat' split
      all_goals first | exact iv3 ⟨_, _, _, rfl⟩ | exact absurd ⟨by assumption, by assumption, by assumption⟩ fin1 | exact absurd ⟨by assumption, by assumption, by assumption⟩ fin2
    · rintro g ⟨x7, x9, x10, rfl⟩
      simp
      rw [show rngT [T.int 3] = some ((List.range 3).map fun k : Nat => T.int (0 + (k : Int))) from rfl]
      simp only [isSm_some]
      refine wLoop_ri (fun i g => ∃ (t : T) (x8 : Option T), g = [some (.scr ns), some t, some (.int s), some (.int k), some (.lst true ((runN s k 0 s).map .int)), some (.bl nm), some (.lst true (rs.map rnT)), x7, x8, x9, x10] ∧ St (1000 + i * 200) t) ⟨t7, none, rfl, s7.mono (by omega)⟩ ?_ ?_
      · rintro i g hi ⟨s', x8, rfl, hs⟩
        obtain ⟨_, _, f4, p, t8, rfl, rfl, s8, z8, r8⟩ := okF_ex (takeM (j := j) (bd := s) (by omega) hs (by omega) (by omega))
        have pp : 0 ≤ p ∧ p < s := by
          by_cases h : s < 2
          · have := z8 h; omega
          · exact r8 (by omega)
        obtain ⟨_, _, f5, t9, rfl, rfl, s9⟩ := okF_ex (faults32 (m := j) (by omega) s8 (by omega) r pp.1 pp.2)
        simp [f4, f5, s9.deep, s8.deep]
        exact iv ⟨t9, _, rfl, s9.mono (by omega)⟩
      · rintro g ⟨s', x8, rfl, hs⟩
        have g2 := got_v (m := j) (nm := nm) (p := 0) (l := s) (by omega) r (by omega) (by omega) (by omega) (by omega)
        rw [all_i r] at g2
        obtain ⟨o1, o2, o3⟩ := toldI_ok 1
        obtain ⟨_, _, q1, rfl⟩ := okF_ex (same_ok 1 _ o1 j (by omega))
        simp only [toldI] at q1 g2
        simp [g2, q1, szl]
        try exact kr _ _ rfl
  refine wss_cut 4 ?_
  show wss _ (Sms.take 4 b_law) _ _ { D with nx := fun g => wss _ (Sms.drop 4 b_law) _ g D }
  generalize Sms.drop 4 b_law = bb at fin ⊢
  have d2 : okDiv 2 = true := by decide
  cases b with
  | true =>
    obtain ⟨_, _, e6, k', t6, rfl, rfl, s6, d0, d1⟩ := okF_ex (between (m := j) (lo := 1) (hi := if 1 < s / 2 then s / 2 else 1) (by omega) s4 (by omega) (by split <;> omega) (by split <;> omega))
    have d1 : k' ≤ s := by
      revert d1
      split <;> omega
    simp [d_law, b_law, Sms.take, pinsOf, List.replicate, e1, e2, e3, e4, d2, e6]
    exact fin t6 k' (s6.mono (by omega)) ⟨a0, a1, d0, d1⟩
  | false =>
    simp [d_law, b_law, Sms.take, pinsOf, List.replicate, e1, e2, e3, e4]
    exact fin t4 k (s4.mono (by omega)) ⟨a0, a1, b0, b1⟩
end Lw
open PySem L2 Kv
theorem PySem.Challenge.cw_airwheel_k32_run_nearest_of_runs_holds : PySem.Challenge.rw_airwheel_k32_run_nearest_of_runs.Holds := by
  w_on; o_law; k_head; (case hw => w_witness2)
  k_fill
  refine' Kv.walk_law (l := PySem.Challenge.rw_airwheel_k32_run_nearest_of_runs) (dl := Lw.ds) (j := 40) (k := 25) rfl rfl ⟨rfl, by decide, by decide⟩ (fun w h Y => PySem.W.kIn_of Y) Lw.plain ?F
  case F =>
    intro w mg fa h KX G hmg
    refine' Lw.facts KX G hmg ?aC0 ?aC1 ?aC2 ?aC3 ?aC4 ?aC5 ?aC6 ?aC7 ?aC8 ?aC9 ?aC10 ?aC11 ?aC12 ?aC13 ?aC14 ?aC15 ?a_is_whole ?l_is_whole ?a_refuse_above ?l_refuse_above ?a_refuse_outside ?l_refuse_outside ?a_check_ring ?l_check_ring ?a_block_start ?l_block_start ?a_slot_in_thread ?l_slot_in_thread ?a_slots_in_run ?l_slots_in_run ?a_check_run ?l_check_run ?a_run_nearest ?l_run_nearest ?a__law_mix ?l__law_mix ?a__law_store ?l__law_store ?a__law_take ?l__law_take ?a__law_between ?l__law_between ?a__law_chance ?l__law_chance ?a__law_edge ?l__law_edge ?a__law_size ?l__law_size ?a__law_out_of ?l__law_out_of ?a__law_out_of_place ?l__law_out_of_place ?a__law_is_whole ?l__law_is_whole ?a__law_same ?l__law_same ?a__law_got ?l__law_got ?a__law_thread ?l__law_thread ?a__law_nearest ?l__law_nearest ?a__law_runs ?l__law_runs ?a__law_faults ?l__law_faults ?a_law ?l_law ?cB ?n1 ?t1 ?m1 ?n2 ?t2 ?m2 ?n3 ?t3 ?m3 ?n4 ?t4 ?m4 ?n5 ?t5 ?m5 ?n6 ?t6 ?m6 ?n7 ?t7 ?m7 ?n8 ?t8 ?m8 ?n10 ?t10 ?m10 ?n11 ?t11 ?m11 ?n12 ?t12 ?m12 ?n13 ?t13 ?m13 ?n14 ?t14 ?m14 ?n15 ?t15 ?m15 ?b_ValueError ?b_abs ?b_bool ?b_int ?b_isinstance ?b_len ?b_list ?b_max ?b_min ?b_range ?b_sorted ?b_str ?b_tuple ?b_zip ?k_MOST_SLOTS
    (case aC0 => k_is)
    (case aC1 => k_is)
    (case aC2 => k_is)
    (case aC3 => k_is)
    (case aC4 => k_is)
    (case aC5 => k_is)
    (case aC6 => k_is)
    (case aC7 => k_is)
    (case aC8 => k_is)
    (case aC9 => k_is)
    (case aC10 => k_is)
    (case aC11 => k_is)
    (case aC12 => k_is)
    (case aC13 => k_is)
    (case aC14 => k_is)
    (case aC15 => k_is)
    (case a_is_whole => k_is)
    (case l_is_whole => refine' Kv.fnV_mk ?fl ?fc ?fk ?fd ?fq; (case fl => k_is); (case fc => k_is); (case fk => k_is); (case fd => exact Kv.dfl_none); (case fq => exact Kv.kwd_none))
    (case a_refuse_above => k_is)
    (case l_refuse_above => refine' Kv.fnV_mk ?fl ?fc ?fk ?fd ?fq; (case fl => k_is); (case fc => k_is); (case fk => k_is); (case fd => exact Kv.dfl_none); (case fq => exact Kv.kwd_none))
    (case a_refuse_outside => k_is)
    (case l_refuse_outside => refine' Kv.fnV_mk ?fl ?fc ?fk ?fd ?fq; (case fl => k_is); (case fc => k_is); (case fk => k_is); (case fd => exact Kv.dfl_none); (case fq => exact Kv.kwd_none))
    (case a_check_ring => k_is)
    (case l_check_ring => refine' Kv.fnV_mk ?fl ?fc ?fk ?fd ?fq; (case fl => k_is); (case fc => k_is); (case fk => k_is); (case fd => exact Kv.dfl_none); (case fq => exact Kv.kwd_none))
    (case a_block_start => k_is)
    (case l_block_start => refine' Kv.fnV_mk ?fl ?fc ?fk ?fd ?fq; (case fl => k_is); (case fc => k_is); (case fk => k_is); (case fd => exact Kv.dfl_none); (case fq => exact Kv.kwd_none))
    (case a_slot_in_thread => k_is)
    (case l_slot_in_thread => refine' Kv.fnV_mk ?fl ?fc ?fk ?fd ?fq; (case fl => k_is); (case fc => k_is); (case fk => k_is); (case fd => exact Kv.dfl_none); (case fq => exact Kv.kwd_none))
    (case a_slots_in_run => k_is)
    (case l_slots_in_run => refine' Kv.fnV_mk ?fl ?fc ?fk ?fd ?fq; (case fl => k_is); (case fc => k_is); (case fk => k_is); (case fd => exact Kv.dfl_none); (case fq => exact Kv.kwd_none))
    (case a_check_run => k_is)
    (case l_check_run => refine' Kv.fnV_mk ?fl ?fc ?fk ?fd ?fq; (case fl => k_is); (case fc => k_is); (case fk => k_is); (case fd => exact Kv.dfl_none); (case fq => exact Kv.kwd_none))
    (case a_run_nearest => k_is)
    (case l_run_nearest => refine' Kv.fnV_mk ?fl ?fc ?fk ?fd ?fq; (case fl => k_is); (case fc => k_is); (case fk => k_is); (case fd => exact Kv.dfl_none); (case fq => exact Kv.kwd_none))
    (case a__law_mix => k_is)
    (case l__law_mix => refine' Kv.fnV_mk ?fl ?fc ?fk ?fd ?fq; (case fl => k_is); (case fc => k_is); (case fk => k_is); (case fd => exact Kv.dfl_none); (case fq => exact Kv.kwd_none))
    (case a__law_store => k_is)
    (case l__law_store => refine' Kv.fnV_mk ?fl ?fc ?fk ?fd ?fq; (case fl => k_is); (case fc => k_is); (case fk => k_is); (case fd => exact Kv.dfl_none); (case fq => exact Kv.kwd_none))
    (case a__law_take => k_is)
    (case l__law_take => refine' Kv.fnV_mk ?fl ?fc ?fk ?fd ?fq; (case fl => k_is); (case fc => k_is); (case fk => k_is); (case fd => exact Kv.dfl_none); (case fq => exact Kv.kwd_none))
    (case a__law_between => k_is)
    (case l__law_between => refine' Kv.fnV_mk ?fl ?fc ?fk ?fd ?fq; (case fl => k_is); (case fc => k_is); (case fk => k_is); (case fd => exact Kv.dfl_none); (case fq => exact Kv.kwd_none))
    (case a__law_chance => k_is)
    (case l__law_chance => refine' Kv.fnV_mk ?fl ?fc ?fk ?fd ?fq; (case fl => k_is); (case fc => k_is); (case fk => k_is); (case fd => exact Kv.dfl_none); (case fq => exact Kv.kwd_none))
    (case a__law_edge => k_is)
    (case l__law_edge => refine' Kv.fnV_mk ?fl ?fc ?fk ?fd ?fq; (case fl => k_is); (case fc => k_is); (case fk => k_is); (case fd => exact Kv.dfl_none); (case fq => exact Kv.kwd_none))
    (case a__law_size => k_is)
    (case l__law_size => refine' Kv.fnV_mk ?fl ?fc ?fk ?fd ?fq; (case fl => k_is); (case fc => k_is); (case fk => k_is); (case fd => exact Kv.dfl_none); (case fq => exact Kv.kwd_none))
    (case a__law_out_of => k_is)
    (case l__law_out_of => refine' Kv.fnV_mk ?fl ?fc ?fk ?fd ?fq; (case fl => k_is); (case fc => k_is); (case fk => k_is); (case fd => exact Kv.dfl_none); (case fq => exact Kv.kwd_none))
    (case a__law_out_of_place => k_is)
    (case l__law_out_of_place => refine' Kv.fnV_mk ?fl ?fc ?fk ?fd ?fq; (case fl => k_is); (case fc => k_is); (case fk => k_is); (case fd => exact Kv.dfl_none); (case fq => exact Kv.kwd_none))
    (case a__law_is_whole => k_is)
    (case l__law_is_whole => refine' Kv.fnV_mk ?fl ?fc ?fk ?fd ?fq; (case fl => k_is); (case fc => k_is); (case fk => k_is); (case fd => exact Kv.dfl_none); (case fq => exact Kv.kwd_none))
    (case a__law_same => k_is)
    (case l__law_same => refine' Kv.fnV_mk ?fl ?fc ?fk ?fd ?fq; (case fl => k_is); (case fc => k_is); (case fk => k_is); (case fd => exact Kv.dfl_none); (case fq => exact Kv.kwd_none))
    (case a__law_got => k_is)
    (case l__law_got => refine' Kv.fnV_mk ?fl ?fc ?fk ?fd ?fq; (case fl => k_is); (case fc => k_is); (case fk => k_is); (case fd => exact Kv.dfl_none); (case fq => exact Kv.kwd_none))
    (case a__law_thread => k_is)
    (case l__law_thread => refine' Kv.fnV_mk ?fl ?fc ?fk ?fd ?fq; (case fl => k_is); (case fc => k_is); (case fk => k_is); (case fd => exact Kv.dfl_none); (case fq => exact Kv.kwd_none))
    (case a__law_nearest => k_is)
    (case l__law_nearest => refine' Kv.fnV_mk ?fl ?fc ?fk ?fd ?fq; (case fl => k_is); (case fc => k_is); (case fk => k_is); (case fd => exact Kv.dfl_none); (case fq => exact Kv.kwd_none))
    (case a__law_runs => k_is)
    (case l__law_runs => refine' Kv.fnV_mk ?fl ?fc ?fk ?fd ?fq; (case fl => k_is); (case fc => k_is); (case fk => k_is); (case fd => exact Kv.dfl_none); (case fq => exact Kv.kwd_none))
    (case a__law_faults => k_is)
    (case l__law_faults => refine' Kv.fnV_mk ?fl ?fc ?fk ?fd ?fq; (case fl => k_is); (case fc => k_is); (case fk => k_is); (case fd => exact Kv.dfl_none); (case fq => exact Kv.kwd_none))
    (case a_law => k_is)
    (case l_law => refine' Kv.fnV_mk ?fl ?fc ?fk ?fd ?fq; (case fl => k_is); (case fc => k_is); (case fk => k_is); (case fd => exact Kv.dfl_none); (case fq => exact Kv.kwd_none))
    (case cB => kernel_rfl)
    (case n1 => k_is)
    (case t1 => k_is)
    (case m1 => refine' Kv.fnF_mk ?fl ?fc ?fk; (case fl => k_is); (case fc => k_is); (case fk => k_is))
    (case n2 => k_is)
    (case t2 => k_is)
    (case m2 => refine' Kv.fnF_mk ?fl ?fc ?fk; (case fl => k_is); (case fc => k_is); (case fk => k_is))
    (case n3 => k_is)
    (case t3 => k_is)
    (case m3 => refine' Kv.fnF_mk ?fl ?fc ?fk; (case fl => k_is); (case fc => k_is); (case fk => k_is))
    (case n4 => k_is)
    (case t4 => k_is)
    (case m4 => refine' Kv.fnF_mk ?fl ?fc ?fk; (case fl => k_is); (case fc => k_is); (case fk => k_is))
    (case n5 => k_is)
    (case t5 => k_is)
    (case m5 => refine' Kv.fnF_mk ?fl ?fc ?fk; (case fl => k_is); (case fc => k_is); (case fk => k_is))
    (case n6 => k_is)
    (case t6 => k_is)
    (case m6 => refine' Kv.fnF_mk ?fl ?fc ?fk; (case fl => k_is); (case fc => k_is); (case fk => k_is))
    (case n7 => k_is)
    (case t7 => k_is)
    (case m7 => refine' Kv.fnF_mk ?fl ?fc ?fk; (case fl => k_is); (case fc => k_is); (case fk => k_is))
    (case n8 => k_is)
    (case t8 => k_is)
    (case m8 => refine' Kv.fnF_mk ?fl ?fc ?fk; (case fl => k_is); (case fc => k_is); (case fk => k_is))
    (case n10 => k_is)
    (case t10 => k_is)
    (case m10 => refine' Kv.fnF_mk ?fl ?fc ?fk; (case fl => k_is); (case fc => k_is); (case fk => k_is))
    (case n11 => k_is)
    (case t11 => k_is)
    (case m11 => refine' Kv.fnF_mk ?fl ?fc ?fk; (case fl => k_is); (case fc => k_is); (case fk => k_is))
    (case n12 => k_is)
    (case t12 => k_is)
    (case m12 => refine' Kv.fnF_mk ?fl ?fc ?fk; (case fl => k_is); (case fc => k_is); (case fk => k_is))
    (case n13 => k_is)
    (case t13 => k_is)
    (case m13 => refine' Kv.fnF_mk ?fl ?fc ?fk; (case fl => k_is); (case fc => k_is); (case fk => k_is))
    (case n14 => k_is)
    (case t14 => k_is)
    (case m14 => refine' Kv.fnF_mk ?fl ?fc ?fk; (case fl => k_is); (case fc => k_is); (case fk => k_is))
    (case n15 => k_is)
    (case t15 => k_is)
    (case m15 => refine' Kv.fnF_mk ?fl ?fc ?fk; (case fl => k_is); (case fc => k_is); (case fk => k_is))
    (case b_ValueError => k_is)
    (case b_abs => k_is)
    (case b_bool => k_is)
    (case b_int => k_is)
    (case b_isinstance => k_is)
    (case b_len => k_is)
    (case b_list => k_is)
    (case b_max => k_is)
    (case b_min => k_is)
    (case b_range => k_is)
    (case b_sorted => k_is)
    (case b_str => k_is)
    (case b_tuple => k_is)
    (case b_zip => k_is)
    (case k_MOST_SLOTS => k_is)
